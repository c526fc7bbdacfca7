import PyProof.Rows.All
import Wide.All
import OpenK.AllK
import Wide.FinOn
import HandS.ForMost
import HandS.ForExc
import HandS.Wide
import HandS.EndBits
import HandS.ExcInit
import HandS.IsInst
import HandS.ExcField
import HandS.ExcIs
import KE.KExcIs
import HandS.TryMany
import HandS.Deep
import HandS.Style
import HandS.CallSlots
import HandS.NoneIn
import PySem.Challenge.RW_layerask_k36_a_right_guess_makes_the_cla
set_option Elab.async false
set_option linter.all false
set_option maxRecDepth 100000
set_option maxHeartbeats 4000000

/-! Data level: values as trees, a store of changing objects, readings lifted to them. -/
namespace Dl
open PySem L2

/-- where the class of this name stands -/
def kcl (K : PySem.W.Frag) (c : String) : Addr := match PySem.W.nsIn K mainGlobals (PySem.Str.ofString c) with
  | some (some (.ref C)) => C
  | _ => 0
theorem kcl_of {K : PySem.W.Frag} {c : String} {C : Addr} (h : PySem.W.nsIn K mainGlobals (PySem.Str.ofString c) = some (some (.ref C))) : kcl K c = C := by
  unfold kcl
  rw [h]

theorem ofString_inj {a b : String} : PySem.Str.ofString a = PySem.Str.ofString b ↔ a = b := by
  constructor
  · intro h
    rw [PySem.Str.ofString_eq_toList, PySem.Str.ofString_eq_toList] at h
    have h1 := congrArg (fun s => s.cps.toList) h
    have h2 : a.toList.map Char.toNat = b.toList.map Char.toNat := by simpa using h1
    have h3 : a.toList = b.toList := by
      refine List.map_inj_right (f := Char.toNat) ?_ |>.mp h2
      intro x y e
      exact Char.ext (UInt32.toNat_inj.mp e)
    exact String.ext h3
  · intro h; rw [h]
theorem ofString_beq {a b : String} : (PySem.Str.ofString a == PySem.Str.ofString b) = (a == b) := by
  rw [Bool.eq_iff_iff, beq_iff_eq, beq_iff_eq]
  exact ofString_inj

inductive D where
  | non | bl (b : Bool) | int (i : Int) | str (x : Str) | ty (n : String) | cls (c : String)
  | lst (ds : List D) | tup (ds : List D) | rol (ds : List D) | rot (ds : List D)
  | hnd (k : Nat) | st (k : Nat)
  | exc (a d : Addr) (c : String) (fs : List (String × D))

/-- the drawing state of a law: where it stands (k 0: a list of a list of ints and an int; k 1: a list of ints, the first a place in it) -/
structure LS where
  A : Addr
  c : Addr
  k : Nat
def LS.fp (S : LS) : List Addr := if S.k = 0 then [S.A, S.c] else [S.A]
def LS.ok (S : LS) (H : Hp) : Prop := if S.k = 0 then ∃ (cells : List Int) (seed : Int), H S.A = some (.lst [.ref S.c, .int seed]) ∧ H S.c = some (.lst (cells.map V.int))
  else ∃ (j : Int) (ns : List Int), 1 ≤ j ∧ H S.A = some (.lst ((j :: ns).map V.int))
theorem LS.fr (S : LS) (H H' : Hp) (e : ∀ a ∈ S.fp, H' a = H a) (h : S.ok H) : S.ok H' := by
  unfold LS.ok at *
  unfold LS.fp at e
  by_cases z : S.k = 0
  · rw [if_pos z] at *
    obtain ⟨cells, seed, h1, h2⟩ := h
    exact ⟨cells, seed, by rw [e _ (by simp)]; exact h1, by rw [e _ (by simp)]; exact h2⟩
  · rw [if_neg z] at *
    obtain ⟨j, ns, h0, h1⟩ := h
    exact ⟨j, ns, h0, by rw [e _ (by simp)]; exact h1⟩
/-- what changes -/
inductive MO where
  | lst (ds : List D)
  | ins (C : String) (fs : List (String × D))
  | dead
/-- s: 0 no drawing state yet, 1 there is one, 2 it is opened -/
structure MM where
  M : List MO
  s : Nat
structure Wd where
  F : Hp
  th : List Addr
  S : Option LS

section
variable (K : PySem.W.Frag) (w : Wd)
mutual
def Rep : D → V → Prop
  | .non, v => v = .non
  | .bl b, v => v = .bl b
  | .int i, v => v = .int i
  | .str x, v => v = .str x
  | .ty n, v => v = .ty n
  | .cls c, v => v = .ref (kcl K c)
  | .lst ds, v => ∃ a xs, v = .ref a ∧ w.F a = some (.lst xs) ∧ RepAll ds xs
  | .tup ds, v => ∃ a xs, v = .ref a ∧ w.F a = some (.tup xs) ∧ RepAll ds xs
  | .rol ds, v => ∃ a xs, v = .ref a ∧ SqL K w.F a xs ∧ RepAll ds xs
  | .rot ds, v => ∃ a xs, v = .ref a ∧ SqT K w.F a xs ∧ RepAll ds xs
  | .hnd k, v => ∃ a, v = .ref a ∧ w.th[k]? = some a
  | .st k, v => ∃ S, w.S = some S ∧ S.k = k ∧ v = .ref S.A
  | .exc a d c fs, v => v = .ref a ∧ ∃ xs, w.F d = some (.xd xs) ∧ RepF fs xs
def RepAll : List D → List V → Prop
  | [], vs => vs = []
  | d :: ds, vs => ∃ v r, vs = v :: r ∧ Rep d v ∧ RepAll ds r
def RepF : List (String × D) → List (Str × V) → Prop
  | [], vs => vs = []
  | (f, d) :: ds, vs => ∃ v r, vs = (PySem.Str.ofString f, v) :: r ∧ Rep d v ∧ RepF ds r
end
end

/-- later worlds -/
structure Wd.le (w w' : Wd) : Prop where
  F : ∀ a o, w.F a = some o → w'.F a = some o
  th : ∀ (k : Nat) a, w.th[k]? = some a → w'.th[k]? = some a
  S : ∀ S, w.S = some S → w'.S = some S
theorem Wd.le.refl (w : Wd) : w.le w := ⟨fun _ _ h => h, fun _ _ h => h, fun _ h => h⟩
theorem Wd.le.trans {a b c : Wd} (h : a.le b) (g : b.le c) : a.le c := ⟨fun x o e => g.F x o (h.F x o e), fun k x e => g.th k x (h.th k x e), fun S e => g.S S (h.S S e)⟩

theorem sql_mono {K : PySem.W.Frag} {H H' : Hp} {a : Addr} {xs : List V} (e : ∀ a o, H a = some o → H' a = some o) (h : SqL K H a xs) : SqL K H' a xs := by
  rcases h with (h | ⟨o, h⟩) | h
  · exact .inl (.inl (e _ _ h))
  · exact .inl (.inr ⟨o, e _ _ h⟩)
  · exact .inr h
theorem sqt_mono {K : PySem.W.Frag} {H H' : Hp} {a : Addr} {xs : List V} (e : ∀ a o, H a = some o → H' a = some o) (h : SqT K H a xs) : SqT K H' a xs := by
  rcases h with (h | ⟨o, h⟩) | h
  · exact .inl (.inl (e _ _ h))
  · exact .inl (.inr ⟨o, e _ _ h⟩)
  · exact .inr h
section
variable {K : PySem.W.Frag} {w w' : Wd}
mutual
theorem Rep.mono (l : w.le w') : ∀ (d : D) (v : V), Rep K w d v → Rep K w' d v
  | .non, _, h => h
  | .bl _, _, h => h
  | .int _, _, h => h
  | .str _, _, h => h
  | .ty _, _, h => h
  | .cls _, _, h => h
  | .lst ds, _, h => by
    obtain ⟨a, xs, e, q, r⟩ := h
    exact ⟨a, xs, e, l.F _ _ q, RepAll.mono l ds xs r⟩
  | .tup ds, _, h => by
    obtain ⟨a, xs, e, q, r⟩ := h
    exact ⟨a, xs, e, l.F _ _ q, RepAll.mono l ds xs r⟩
  | .rol ds, _, h => by
    obtain ⟨a, xs, e, q, r⟩ := h
    exact ⟨a, xs, e, sql_mono l.F q, RepAll.mono l ds xs r⟩
  | .rot ds, _, h => by
    obtain ⟨a, xs, e, q, r⟩ := h
    exact ⟨a, xs, e, sqt_mono l.F q, RepAll.mono l ds xs r⟩
  | .hnd k, _, h => by
    obtain ⟨a, e, q⟩ := h
    exact ⟨a, e, l.th _ _ q⟩
  | .st _, _, h => by
    obtain ⟨S, e, q⟩ := h
    exact ⟨S, l.S _ e, q⟩
  | .exc a d c fs, _, h => by
    obtain ⟨e, xs, q, r⟩ := h
    exact ⟨e, xs, l.F _ _ q, RepF.mono l fs xs r⟩
theorem RepAll.mono (l : w.le w') : ∀ (ds : List D) (vs : List V), RepAll K w ds vs → RepAll K w' ds vs
  | [], _, h => h
  | d :: ds, _, h => by
    obtain ⟨v, r, e, a, b⟩ := h
    exact ⟨v, r, e, Rep.mono l d v a, RepAll.mono l ds r b⟩
theorem RepF.mono (l : w.le w') : ∀ (ds : List (String × D)) (vs : List (Str × V)), RepF K w ds vs → RepF K w' ds vs
  | [], _, h => h
  | (f, d) :: ds, _, h => by
    obtain ⟨v, r, e, a, b⟩ := h
    exact ⟨v, r, e, Rep.mono l d v a, RepF.mono l ds r b⟩
end
theorem RepAll.length : ∀ {ds : List D} {vs : List V}, RepAll K w ds vs → vs.length = ds.length
  | [], _, h => by
    have e : _ = [] := h
    subst e; rfl
  | d :: ds, _, h => by
    obtain ⟨v, r, e, a, b⟩ := h
    subst e
    rw [List.length_cons, List.length_cons, RepAll.length b]
theorem RepAll.get : ∀ {ds : List D} {vs : List V} {i : Nat} {d : D}, RepAll K w ds vs → ds[i]? = some d → ∃ v, vs[i]? = some v ∧ Rep K w d v
  | [], _, _, _, _, h => by simp at h
  | d :: ds, _, i, d', h, e => by
    obtain ⟨v, r, rfl, a, b⟩ := h
    cases i with
    | zero => simp at e; subst e; exact ⟨v, rfl, a⟩
    | succ i => exact RepAll.get (i := i) b (by simpa using e)
theorem RepAll.append : ∀ {ds es : List D} {vs us : List V}, RepAll K w ds vs → RepAll K w es us → RepAll K w (ds ++ es) (vs ++ us)
  | [], _, _, _, h, g => by
    have q : _ = [] := h
    subst q; exact g
  | d :: ds, _, _, _, h, g => by
    obtain ⟨v, r, rfl, a, b⟩ := h
    exact ⟨v, _, rfl, a, RepAll.append b g⟩
theorem RepAll.set : ∀ {ds : List D} {vs : List V} {d : D} {v : V} (i : Nat), RepAll K w ds vs → Rep K w d v → RepAll K w (ds.set i d) (vs.set i v)
  | [], _, _, _, _, h, _ => by
    have q : _ = [] := h
    subst q; exact rfl
  | d :: ds, _, d', v', i, h, g => by
    obtain ⟨v, r, rfl, a, b⟩ := h
    cases i with
    | zero => exact ⟨v', r, rfl, g, b⟩
    | succ i => exact ⟨v, _, rfl, a, RepAll.set i b g⟩
theorem RepAll.take : ∀ {ds : List D} {vs : List V} (n : Nat), RepAll K w ds vs → RepAll K w (ds.take n) (vs.take n)
  | [], _, n, h => by
    have q : _ = [] := h
    subst q; simp; exact rfl
  | d :: ds, _, n, h => by
    obtain ⟨v, r, rfl, a, b⟩ := h
    cases n with
    | zero => exact rfl
    | succ n => exact ⟨v, _, rfl, a, RepAll.take n b⟩
theorem RepAll.drop : ∀ {ds : List D} {vs : List V} (n : Nat), RepAll K w ds vs → RepAll K w (ds.drop n) (vs.drop n)
  | [], _, n, h => by
    have q : _ = [] := h
    subst q; simp; exact rfl
  | d :: ds, _, n, h => by
    obtain ⟨v, r, rfl, a, b⟩ := h
    cases n with
    | zero => exact ⟨v, _, rfl, a, b⟩
    | succ n => exact RepAll.drop n b
theorem RepAll.reverse {ds : List D} {vs : List V} (h : RepAll K w ds vs) : RepAll K w ds.reverse vs.reverse := by
  induction ds generalizing vs with
  | nil =>
    have q : vs = [] := h
    subst q; exact rfl
  | cons d ds ih =>
    obtain ⟨v, r, rfl, a, b⟩ := h
    rw [List.reverse_cons, List.reverse_cons]
    exact RepAll.append (ih b) ⟨v, [], rfl, a, rfl⟩
theorem RepF.look : ∀ {ds : List (String × D)} {vs : List (Str × V)} {f : String} {d : D}, RepF K w ds vs → ds.lookup f = some d → ∃ v, vs.lookup (PySem.Str.ofString f) = some v ∧ Rep K w d v
  | [], _, _, _, _, h => by simp at h
  | (g, d) :: ds, _, f, d', h, e => by
    obtain ⟨v, r, rfl, a, b⟩ := h
    rw [List.lookup_cons] at e
    rw [List.lookup_cons, ofString_beq]
    cases hb : f == g with
    | true => rw [hb] at e; simp at e; subst e; exact ⟨v, rfl, a⟩
    | false => rw [hb] at e; exact RepF.look b e
theorem RepF.none : ∀ {ds : List (String × D)} {vs : List (Str × V)} {f : String}, RepF K w ds vs → ds.lookup f = Option.none → vs.lookup (PySem.Str.ofString f) = Option.none
  | [], _, _, h, _ => by
    have q : _ = [] := h
    subst q; rfl
  | (g, d) :: ds, _, f, h, e => by
    obtain ⟨v, r, rfl, a, b⟩ := h
    rw [List.lookup_cons] at e
    rw [List.lookup_cons, ofString_beq]
    cases hb : f == g with
    | true => rw [hb] at e; simp at e
    | false => rw [hb] at e; exact RepF.none b e
theorem RepF.length : ∀ {ds : List (String × D)} {vs : List (Str × V)}, RepF K w ds vs → vs.length = ds.length
  | [], _, h => by
    have e : _ = [] := h
    subst e; rfl
  | (f, d) :: ds, _, h => by
    obtain ⟨v, r, e, a, b⟩ := h
    subst e
    rw [List.length_cons, List.length_cons, RepF.length b]
def putD (f : String) (v : D) : List (String × D) → List (String × D)
  | [] => [(f, v)]
  | (g, x) :: r => if g = f then (g, v) :: r else (g, x) :: putD f v r
theorem RepF.put {f : String} {d : D} {v : V} (g : Rep K w d v) : ∀ {ds : List (String × D)} {vs : List (Str × V)}, RepF K w ds vs → RepF K w (putD f d ds) (putF (PySem.Str.ofString f) v vs)
  | [], _, h => by
    have q : _ = [] := h
    subst q; exact ⟨v, [], rfl, g, rfl⟩
  | (k, d') :: ds, _, h => by
    obtain ⟨u, r, rfl, a, b⟩ := h
    unfold putD putF
    by_cases e : k = f
    · rw [if_pos e, if_pos (ofString_inj.mpr e)]; exact ⟨v, r, by rw [e], g, b⟩
    · rw [if_neg e, if_neg (fun z => e (ofString_inj.mp z))]; exact ⟨u, _, rfl, a, RepF.put g b⟩
end

def ORep (K : PySem.W.Frag) (w : Wd) (H : Hp) (a : Addr) : MO → Prop
  | .lst ds => ∃ xs, H a = some (.lst xs) ∧ RepAll K w ds xs
  | .ins C fs => ∃ dx vs, H a = some (.ins (kcl K C) dx vs) ∧ RepF K w fs vs
  | .dead => ∃ o, H a = some o
theorem ORep.mono {K : PySem.W.Frag} {w w' : Wd} {H H' : Hp} {a : Addr} (l : w.le w') (e : H' a = H a) : ∀ {o : MO}, ORep K w H a o → ORep K w' H' a o
  | .lst ds, h => by
    obtain ⟨xs, q, r⟩ := h
    exact ⟨xs, e.trans q, RepAll.mono l _ _ r⟩
  | .ins C fs, h => by
    obtain ⟨dx, vs, q, r⟩ := h
    exact ⟨dx, vs, e.trans q, RepF.mono l _ _ r⟩
  | .dead, h => by
    obtain ⟨o, q⟩ := h
    exact ⟨o, e.trans q⟩
theorem ORep.there {K : PySem.W.Frag} {w : Wd} {H : Hp} {a : Addr} : ∀ {o : MO}, ORep K w H a o → ∃ o, H a = Option.some o
  | .lst _, ⟨_, q, _⟩ => ⟨_, q⟩
  | .ins _ _, ⟨_, _, q, _⟩ => ⟨_, q⟩
  | .dead, h => h
/-- the heap bears the world and the store -/
structure HRep (K : PySem.W.Frag) (w : Wd) (m : MM) (H : Hp) : Prop where
  ext : ∀ a o, w.F a = some o → H a = some o
  len : w.th.length = m.M.length
  nd : w.th.Nodup
  obj : ∀ (k : Nat) a o, w.th[k]? = some a → m.M[k]? = some o → ORep K w H a o
  thF : ∀ (k : Nat) a o, w.th[k]? = some a → m.M[k]? = some o → o ≠ .dead → w.F a = none
  ls : m.s = 1 → ∀ S, w.S = some S → S.ok H ∧ ∀ a ∈ S.fp, w.F a = none ∧ a ∉ w.th ∧ ∃ o, H a = some o
  flag : (m.s = 0 → w.S = none) ∧ (m.s = 1 → w.S.isSome = true)

abbrev Env := List (Option D)
abbrev XP := String → List (String × D) → MM → Prop
abbrev DE := Env → MM → (D → MM → Prop) → XP → Prop
abbrev DA := Env → MM → (List D → MM → Prop) → XP → Prop
abbrev DT := Env → MM → (Bool → MM → Prop) → XP → Prop
structure DN where
  nx : Env → MM → Prop
  rt : D → MM → Prop
  bk : Env → MM → Prop := fun _ _ => False
  ct : Env → MM → Prop := fun _ _ => False
def Slots (K : PySem.W.Frag) (w : Wd) (σ : St) (ρ : Env) : Prop := σ.length = ρ.length ∧ ∀ (i : Nat) d, ρ[i]? = some (some d) → ∃ v, σ[i]? = some (some v) ∧ Rep K w d v
theorem Slots.mono {K : PySem.W.Frag} {w w' : Wd} {σ : St} {ρ : Env} (l : w.le w') (h : Slots K w σ ρ) : Slots K w' σ ρ := ⟨h.1, fun i d e => let ⟨v, a, b⟩ := h.2 i d e; ⟨v, a, Rep.mono l _ _ b⟩⟩
theorem Slots.set {K : PySem.W.Frag} {w : Wd} {σ : St} {ρ : Env} {d : D} {v : V} (i : Nat) (h : Slots K w σ ρ) (r : Rep K w d v) : Slots K w (σ.set i (some v)) (ρ.set i (some d)) := by
  refine ⟨by rw [List.length_set, List.length_set]; exact h.1, fun j d' e => ?_⟩
  by_cases hj : i = j
  · subst hj
    have hl : i < ρ.length := by
      rcases Nat.lt_or_ge i ρ.length with q | q
      · exact q
      · rw [List.getElem?_eq_none (by simpa using q)] at e; cases e
    rw [List.getElem?_set_self hl] at e
    cases e
    exact ⟨v, by rw [List.getElem?_set_self (by rw [h.1]; exact hl)], r⟩
  · rw [List.getElem?_set_ne hj] at e
    obtain ⟨u, a, b⟩ := h.2 j d' e
    exact ⟨u, by rw [List.getElem?_set_ne hj]; exact a, b⟩
theorem Slots.wipe {K : PySem.W.Frag} {w : Wd} {σ : St} {ρ : Env} (h : Slots K w σ ρ) (i : Nat) : Slots K w (σ.set i none) (ρ.set i none) := by
  refine ⟨by rw [List.length_set, List.length_set]; exact h.1, fun j d' e => ?_⟩
  by_cases hj : i = j
  · subst hj
    by_cases hl : i < ρ.length
    · rw [List.getElem?_set_self hl] at e; cases e
    · rw [List.getElem?_eq_none (by simpa using hl)] at e; cases e
  · rw [List.getElem?_set_ne hj] at e
    obtain ⟨u, a, b⟩ := h.2 j d' e
    exact ⟨u, by rw [List.getElem?_set_ne hj]; exact a, b⟩

def XLift (K : PySem.W.Frag) (w : Wd) (E : WX) (σ : St) (Ψ : XP) : Prop := ∀ C fs m' w' H' d xs, w.le w' → HRep K w' m' H' → w'.F d = some (.xd xs) → RepF K w' fs xs → Ψ C fs m' → E (.ref (kcl K C)) (some d) σ H'
theorem XLift.mono {K : PySem.W.Frag} {w w' : Wd} {E : WX} {σ : St} {Ψ : XP} (l : w.le w') (h : XLift K w E σ Ψ) : XLift K w' E σ Ψ := fun C fs m' w2 H' d xs l2 a b c q => h C fs m' w2 H' d xs (l.trans l2) a b c q
def VLift (K : PySem.W.Frag) (w : Wd) (Q : VK) (Φ : D → MM → Prop) : Prop := ∀ d m' w' H' v, w.le w' → HRep K w' m' H' → Rep K w' d v → Φ d m' → Q v H'
theorem VLift.mono {K : PySem.W.Frag} {w w' : Wd} {Q : VK} {Φ : D → MM → Prop} (l : w.le w') (h : VLift K w Q Φ) : VLift K w' Q Φ := fun d m' w2 H' v l2 a b c => h d m' w2 H' v (l.trans l2) a b c
def SLift (K : PySem.W.Frag) (w : Wd) (Q : St → Hp → Prop) (Φ : Env → MM → Prop) : Prop := ∀ ρ m' w' H' σ, w.le w' → HRep K w' m' H' → Slots K w' σ ρ → Φ ρ m' → Q σ H'
theorem SLift.mono {K : PySem.W.Frag} {w w' : Wd} {Q : St → Hp → Prop} {Φ : Env → MM → Prop} (l : w.le w') (h : SLift K w Q Φ) : SLift K w' Q Φ := fun d m' w2 H' v l2 a b c => h d m' w2 H' v (l.trans l2) a b c
structure NLift (K : PySem.W.Frag) (w : Wd) (D : Ends) (N : DN) : Prop where
  nx : SLift K w D.nx N.nx
  rt : VLift K w D.rt N.rt
  bk : SLift K w D.bk N.bk
  ct : SLift K w D.ct N.ct
theorem NLift.mono {K : PySem.W.Frag} {w w' : Wd} {D : Ends} {N : DN} (l : w.le w') (h : NLift K w D N) : NLift K w' D N := ⟨h.nx.mono l, h.rt.mono l, h.bk.mono l, h.ct.mono l⟩

abbrev XS := Env → XP
def SX (K : PySem.W.Frag) (w : Wd) (E : WX) (Ψ : XS) : Prop := ∀ ρ σ w1, w.le w1 → Slots K w1 σ ρ → XLift K w1 E σ (Ψ ρ)
theorem SX.mono {K : PySem.W.Frag} {w w' : Wd} {E : WX} {Ψ : XS} (l : w.le w') (h : SX K w E Ψ) : SX K w' E Ψ := fun ρ σ w1 l1 s => h ρ σ w1 (l.trans l1) s
structure At (K : PySem.W.Frag) (E : WX) (w : Wd) (σ : St) (H : Hp) (ρ : Env) (m : MM) (Ψ : XP) : Prop where
  h : HRep K w m H
  s : Slots K w σ ρ
  x : XLift K w E σ Ψ
theorem At.to {K : PySem.W.Frag} {E : WX} {w w' : Wd} {σ : St} {H H' : Hp} {ρ : Env} {m m' : MM} {Ψ : XP} (a : At K E w σ H ρ m Ψ) (l : w.le w') (h : HRep K w' m' H') : At K E w' σ H' ρ m' Ψ := ⟨h, a.s.mono l, a.x.mono l⟩
structure AtS (K : PySem.W.Frag) (E : WX) (w : Wd) (σ : St) (H : Hp) (ρ : Env) (m : MM) (Ψ : XS) : Prop where
  h : HRep K w m H
  s : Slots K w σ ρ
  x : SX K w E Ψ
theorem AtS.to {K : PySem.W.Frag} {E : WX} {w w' : Wd} {σ : St} {H H' : Hp} {ρ : Env} {m m' : MM} {Ψ : XS} (a : AtS K E w σ H ρ m Ψ) (l : w.le w') (h : HRep K w' m' H') : AtS K E w' σ H' ρ m' Ψ := ⟨h, a.s.mono l, a.x.mono l⟩
theorem AtS.at {K : PySem.W.Frag} {E : WX} {w : Wd} {σ : St} {H : Hp} {ρ : Env} {m : MM} {Ψ : XS} (a : AtS K E w σ H ρ m Ψ) : At K E w σ H ρ m (Ψ ρ) := ⟨a.h, a.s, a.x ρ σ w (Wd.le.refl w) a.s⟩
abbrev DS := DN → XS → Env → MM → Prop
def lift (K : PySem.W.Frag) (E : WX) (W : DE) : TE := fun σ H Q => ∃ w ρ m Ψ Φ, At K E w σ H ρ m Ψ ∧ VLift K w Q Φ ∧ W ρ m Φ Ψ
def liftA (K : PySem.W.Frag) (E : WX) (W : DA) : TA := fun σ H Q => ∃ w ρ m Ψ Φ, At K E w σ H ρ m Ψ ∧ (∀ ds m' w' H' vs, w.le w' → HRep K w' m' H' → RepAll K w' ds vs → Φ ds m' → Q vs H') ∧ W ρ m Φ Ψ
def liftT (K : PySem.W.Frag) (E : WX) (W : DT) : TT := fun σ H Q => ∃ w ρ m Ψ Φ, At K E w σ H ρ m Ψ ∧ (∀ b m' w' H', w.le w' → HRep K w' m' H' → Φ b m' → Q b H') ∧ W ρ m Φ Ψ
def liftS (K : PySem.W.Frag) (E : WX) (W : DS) : TS := fun D σ H => ∃ w ρ m Ψ N, AtS K E w σ H ρ m Ψ ∧ NLift K w D N ∧ W N Ψ ρ m

/-! ### judgements -/
abbrev JE (X : Cx) (E : WX) (e : Expr) (W : DE) : Prop := PE X e (lift X.K E W)
abbrev JA (X : Cx) (E : WX) (es : List Expr) (W : DA) : Prop := PA X es (liftA X.K E W)
abbrev JT (X : Cx) (E : WX) (e : Expr) (W : DT) : Prop := PT X e (liftT X.K E W)
abbrev JW (X : Cx) (E : WX) (e : Expr) (W : DT) : Prop := PW X e (liftT X.K E W)
abbrev JS (X : Cx) (E : WX) (st : Stmt) (W : DS) : Prop := PS X st (liftS X.K E W)
abbrev JSs (X : Cx) (E : WX) (st : List Stmt) (W : DS) : Prop := PSs X st (liftS X.K E W)
theorem PE.imp {X : Cx} {e : Expr} {t t' : TE} (h : PE X e t) (i : ∀ σ H Q, t' σ H Q → t σ H Q) : PE X e t' := ⟨fun pins s σ H Q I q => h.run pins s σ H Q I (i σ H Q q)⟩
theorem PA.imp {X : Cx} {e : List Expr} {t t' : TA} (h : PA X e t) (i : ∀ σ H Q, t' σ H Q → t σ H Q) : PA X e t' := ⟨fun pos pins s σ H Q I q => h.run pos pins s σ H Q I (i σ H Q q)⟩
theorem PT.imp {X : Cx} {e : Expr} {t t' : TT} (h : PT X e t) (i : ∀ σ H Q, t' σ H Q → t σ H Q) : PT X e t' := ⟨fun pins s σ H Q I q => h.run pins s σ H Q I (i σ H Q q)⟩
theorem PW.imp {X : Cx} {e : Expr} {t t' : TT} (h : PW X e t) (i : ∀ σ H Q, t' σ H Q → t σ H Q) : PW X e t' := ⟨fun wh pins s σ H Q I q => h.run wh pins s σ H Q I (i σ H Q q)⟩
theorem PS.imp {X : Cx} {e : Stmt} {t t' : TS} (h : PS X e t) (i : ∀ D σ H, t' D σ H → t D σ H) : PS X e t' := ⟨fun pins s σ H D I q => h.run pins s σ H D I (i D σ H q)⟩
theorem PSs.imp {X : Cx} {e : List Stmt} {t t' : TS} (h : PSs X e t) (i : ∀ D σ H, t' D σ H → t D σ H) : PSs X e t' := ⟨fun pins s σ H D I q => h.run pins s σ H D I (i D σ H q)⟩
end Dl

namespace Dl
open PySem L2
section
variable {K : PySem.W.Frag} {w w' : Wd} {m m' : MM} {H H' : Hp} {p a : Addr} {ho : HO} {k : Nat}

theorem ORep.ex (e : ∀ a o, H a = some o → H' a = some o) : ∀ {o : MO}, ORep K w H a o → ORep K w H' a o
  | .lst ds, ⟨xs, q, r⟩ => ⟨xs, e _ _ q, r⟩
  | .ins C fs, ⟨dx, vs, q, r⟩ => ⟨dx, vs, e _ _ q, r⟩
  | .dead, ⟨o, q⟩ => ⟨o, e _ _ q⟩
theorem HRep.ex (h : HRep K w m H) (e : ∀ a o, H a = some o → H' a = some o) : HRep K w m H' where
  ext := fun a o q => e a o (h.ext a o q)
  len := h.len
  nd := h.nd
  obj := fun k a o q1 q2 => (h.obj k a o q1 q2).ex e
  thF := h.thF
  ls := fun s1 S q => by
    obtain ⟨h1, h2⟩ := h.ls s1 S q
    refine ⟨S.fr H H' (fun a ha => ?_) h1, fun a ha => ?_⟩
    · obtain ⟨_, _, o, ho⟩ := h2 a ha
      rw [ho, e a o ho]
    · obtain ⟨q1, q2, o, ho⟩ := h2 a ha
      exact ⟨q1, q2, o, e a o ho⟩
  flag := h.flag
theorem HRep.thO (h : HRep K w m H) {k : Nat} {a : Addr} (e : w.th[k]? = some a) : ∃ o, m.M[k]? = some o ∧ ORep K w H a o := by
  have hk : k < w.th.length := (List.getElem?_eq_some_iff.mp e).1
  rw [h.len] at hk
  exact ⟨m.M[k], List.getElem?_eq_getElem hk, h.obj k a _ e (List.getElem?_eq_getElem hk)⟩
theorem HRep.thH (h : HRep K w m H) {a : Addr} (e : a ∈ w.th) : ∃ o, H a = some o := by
  obtain ⟨k, hk, rfl⟩ := List.mem_iff_getElem.mp e
  obtain ⟨o, _, q⟩ := h.thO (List.getElem?_eq_getElem hk)
  exact q.there
theorem HRep.nof (h : HRep K w m H) (hp : H p = none) : w.F p = none := by
  cases q : w.F p with
  | none => rfl
  | some o => rw [h.ext p o q] at hp; cases hp
theorem HRep.not (h : HRep K w m H) (hp : H p = none) : p ∉ w.th := fun z => by
  obtain ⟨o, q⟩ := h.thH z
  rw [hp] at q; cases q

/-- a new frozen object -/
def Wd.put (w : Wd) (p : Addr) (ho : HO) : Wd := ⟨upd w.F p ho, w.th, w.S⟩
theorem Wd.le_put (h : w.F p = none) : w.le (w.put p ho) := ⟨fun a o e => by show upd w.F p ho a = some o; rw [upd_ne (ne_of_none e h)]; exact e, fun _ _ e => e, fun _ e => e⟩
theorem ex_new (hp : H p = none) : ∀ a o, H a = some o → upd H p ho a = some o := fun a o e => by rw [upd_ne (ne_of_none e hp)]; exact e
theorem HRep.put (h : HRep K w m H) (hp : H p = none) : HRep K (w.put p ho) m (upd H p ho) where
  ext := fun a o q => by
    have q : upd w.F p ho a = some o := q
    by_cases e : a = p
    · subst e; rw [upd_same] at q ⊢; exact q
    · rw [upd_ne e] at q ⊢; exact h.ext a o q
  len := h.len
  nd := h.nd
  obj := fun k a o q1 q2 => by
    have z := h.obj k a o q1 q2
    have ne : a ≠ p := fun e => h.not hp (by rw [← e]; exact List.mem_of_getElem? q1)
    exact z.mono (Wd.le_put (h.nof hp)) (upd_ne ne)
  thF := fun k a o q1 q2 q3 => by
    have ne : a ≠ p := fun e => h.not hp (by rw [← e]; exact List.mem_of_getElem? q1)
    show upd w.F p ho a = none
    rw [upd_ne ne]; exact h.thF k a o q1 q2 q3
  ls := fun s1 S q => by
    obtain ⟨h1, h2⟩ := h.ls s1 S q
    have ne : ∀ a ∈ S.fp, a ≠ p := fun a ha e => by
      obtain ⟨_, _, o, ho⟩ := h2 a ha
      rw [e, hp] at ho; cases ho
    refine ⟨S.fr H _ (fun a ha => upd_ne (ne a ha)) h1, fun a ha => ?_⟩
    obtain ⟨q1, q2, o, q3⟩ := h2 a ha
    refine ⟨?_, q2, o, by rw [upd_ne (ne a ha)]; exact q3⟩
    show upd w.F p ho a = none
    rw [upd_ne (ne a ha)]; exact q1
  flag := h.flag
theorem rep_put_lst {ds : List D} {xs : List V} (h : HRep K w m H) (hp : H p = none) (r : RepAll K w ds xs) : Rep K (w.put p (.lst xs)) (.lst ds) (.ref p) :=
  ⟨p, xs, rfl, upd_same, RepAll.mono (Wd.le_put (h.nof hp)) _ _ r⟩
theorem rep_put_tup {ds : List D} {xs : List V} (h : HRep K w m H) (hp : H p = none) (r : RepAll K w ds xs) : Rep K (w.put p (.tup xs)) (.tup ds) (.ref p) :=
  ⟨p, xs, rfl, upd_same, RepAll.mono (Wd.le_put (h.nof hp)) _ _ r⟩

/-- a new changing object -/
def Wd.add (w : Wd) (p : Addr) : Wd := ⟨w.F, w.th ++ [p], w.S⟩
def MM.push (m : MM) (o : MO) : MM := ⟨m.M ++ [o], m.s⟩
theorem Wd.le_add : w.le (w.add p) := ⟨fun _ _ e => e, fun k a e => by
  show (w.th ++ [p])[k]? = some a
  rw [List.getElem?_append_left (List.getElem?_eq_some_iff.mp e).1]; exact e, fun _ e => e⟩
theorem HRep.add {o : MO} (h : HRep K w m H) (hp : H p = none) (ob : ORep K (w.add p) (upd H p ho) p o) : HRep K (w.add p) (m.push o) (upd H p ho) where
  ext := fun a o q => ex_new hp a o (h.ext a o q)
  len := by show (w.th ++ [p]).length = (m.M ++ [o]).length; rw [List.length_append, List.length_append, h.len]; rfl
  nd := by
    show (w.th ++ [p]).Nodup
    rw [List.nodup_append]
    refine ⟨h.nd, by simp, fun a ha b hb e => ?_⟩
    have e2 : b = p := by simpa using hb
    subst e2; subst e
    exact h.not hp ha
  obj := fun k a o' q1 q2 => by
    have q1 : (w.th ++ [p])[k]? = some a := q1
    have q2 : (m.M ++ [o])[k]? = some o' := q2
    rcases Nat.lt_or_ge k w.th.length with hk | hk
    · rw [List.getElem?_append_left hk] at q1
      rw [List.getElem?_append_left (by rw [← h.len]; exact hk)] at q2
      have ne : a ≠ p := fun e => h.not hp (by rw [← e]; exact List.mem_of_getElem? q1)
      exact (h.obj k a o' q1 q2).mono Wd.le_add (upd_ne ne)
    · rw [List.getElem?_append_right hk] at q1
      rw [List.getElem?_append_right (by rw [← h.len]; exact hk)] at q2
      have hk2 : k = w.th.length := by
        have z := (List.getElem?_eq_some_iff.mp q1).1
        simp at z; omega
      subst hk2
      rw [Nat.sub_self] at q1
      rw [h.len, Nat.sub_self] at q2
      simp at q1 q2
      subst q1; subst q2
      exact ob
  thF := fun k a o' q1 q2 q3 => by
    have q1 : (w.th ++ [p])[k]? = some a := q1
    have q2 : (m.M ++ [o])[k]? = some o' := q2
    show w.F a = none
    rcases Nat.lt_or_ge k w.th.length with hk | hk
    · rw [List.getElem?_append_left hk] at q1
      rw [List.getElem?_append_left (by rw [← h.len]; exact hk)] at q2
      exact h.thF k a o' q1 q2 q3
    · rw [List.getElem?_append_right hk] at q1
      have z : a ∈ [p] := List.mem_of_getElem? q1
      have e : a = p := by simpa using z
      rw [e]; exact h.nof hp
  ls := fun s1 S q => by
    obtain ⟨h1, h2⟩ := h.ls s1 S q
    have ne : ∀ a ∈ S.fp, a ≠ p := fun a ha e => by
      obtain ⟨_, _, o, ho⟩ := h2 a ha
      rw [e, hp] at ho; cases ho
    refine ⟨S.fr H _ (fun a ha => upd_ne (ne a ha)) h1, fun a ha => ?_⟩
    obtain ⟨q1, q2, o, q3⟩ := h2 a ha
    refine ⟨q1, ?_, o, by rw [upd_ne (ne a ha)]; exact q3⟩
    show a ∉ w.th ++ [p]
    simp only [List.mem_append, List.mem_singleton, not_or]
    exact ⟨q2, ne a ha⟩
  flag := h.flag
theorem rep_add (h : HRep K w m H) : Rep K (w.add p) (.hnd m.M.length) (.ref p) := ⟨p, rfl, by
  show (w.th ++ [p])[m.M.length]? = some p
  rw [← h.len, List.getElem?_append_right (Nat.le_refl _)]; simp⟩

/-- a changing object is written -/
theorem HRep.wr {o o' : MO} (h : HRep K w m H) (e : w.th[k]? = some a) (eo : m.M[k]? = some o) (hd : o ≠ .dead) (ob : ORep K w (upd H a ho) a o') : HRep K w ⟨m.M.set k o', m.s⟩ (upd H a ho) where
  ext := fun b u q => by
    have ne : b ≠ a := fun z => by rw [z, h.thF k a o e eo hd] at q; cases q
    rw [upd_ne ne]; exact h.ext b u q
  len := by show w.th.length = (m.M.set k o').length; rw [List.length_set]; exact h.len
  nd := h.nd
  obj := fun j b u q1 q2 => by
    have q2 : (m.M.set k o')[j]? = some u := q2
    by_cases hj : k = j
    · subst hj
      rw [e] at q1; cases q1
      rw [List.getElem?_set_self (List.getElem?_eq_some_iff.mp eo).1] at q2
      cases q2; exact ob
    · rw [List.getElem?_set_ne hj] at q2
      have ne : b ≠ a := fun z => hj (by
        subst z
        obtain ⟨k1, k2⟩ := List.getElem?_eq_some_iff.mp e
        obtain ⟨j1, j2⟩ := List.getElem?_eq_some_iff.mp q1
        exact (List.getElem_inj h.nd).mp (k2.trans j2.symm))
      exact (h.obj j b u q1 q2).mono (Wd.le.refl w) (upd_ne ne)
  thF := fun j b u q1 q2 q3 => by
    have q2 : (m.M.set k o')[j]? = some u := q2
    by_cases hj : k = j
    · subst hj
      rw [e] at q1; cases q1
      exact h.thF k a o e eo hd
    · rw [List.getElem?_set_ne hj] at q2
      exact h.thF j b u q1 q2 q3
  ls := fun s1 S q => by
    obtain ⟨h1, h2⟩ := h.ls s1 S q
    have ne : ∀ b ∈ S.fp, b ≠ a := fun b hb z => (h2 b hb).2.1 (by rw [z]; exact List.mem_of_getElem? e)
    refine ⟨S.fr H _ (fun b hb => upd_ne (ne b hb)) h1, fun b hb => ?_⟩
    obtain ⟨q1, q2, o, q3⟩ := h2 b hb
    exact ⟨q1, q2, o, by rw [upd_ne (ne b hb)]; exact q3⟩
  flag := h.flag
/-- a changing list is frozen -/
theorem HRep.frz {ds : List D} (h : HRep K w m H) (e : w.th[k]? = some a) (eo : m.M[k]? = some (.lst ds)) : ∃ xs, w.F a = none ∧ H a = some (.lst xs) ∧ RepAll K w ds xs ∧ HRep K (w.put a (.lst xs)) ⟨m.M.set k .dead, m.s⟩ H := by
  obtain ⟨xs, hx, r⟩ := h.obj k a _ e eo
  have fa := h.thF k a _ e eo (fun z => by cases z)
  refine ⟨xs, fa, hx, r, ?_⟩
  have le := Wd.le_put (ho := .lst xs) fa
  have nea : ∀ {j : Nat} {b : Addr}, w.th[j]? = some b → b = a → k = j := fun {j b} q1 z => by
    subst z
    obtain ⟨k1, k2⟩ := List.getElem?_eq_some_iff.mp e
    obtain ⟨j1, j2⟩ := List.getElem?_eq_some_iff.mp q1
    exact (List.getElem_inj h.nd).mp (k2.trans j2.symm)
  exact {
    ext := fun b u q => by
      have q : upd w.F a (.lst xs) b = some u := q
      by_cases z : b = a
      · subst z; rw [upd_same] at q; cases q; exact hx
      · rw [upd_ne z] at q; exact h.ext b u q
    len := by show w.th.length = (m.M.set k .dead).length; rw [List.length_set]; exact h.len
    nd := h.nd
    obj := fun j b u q1 q2 => by
      have q2 : (m.M.set k .dead)[j]? = some u := q2
      by_cases hj : k = j
      · subst hj
        have q1 : w.th[k]? = some b := q1
        rw [e] at q1; cases q1
        rw [List.getElem?_set_self (List.getElem?_eq_some_iff.mp eo).1] at q2
        cases q2; exact ⟨_, hx⟩
      · rw [List.getElem?_set_ne hj] at q2
        exact (h.obj j b u q1 q2).mono le rfl
    thF := fun j b u q1 q2 q3 => by
      have q2 : (m.M.set k .dead)[j]? = some u := q2
      have q1 : w.th[j]? = some b := q1
      by_cases hj : k = j
      · subst hj
        rw [List.getElem?_set_self (List.getElem?_eq_some_iff.mp eo).1] at q2
        cases q2; exact absurd rfl q3
      · rw [List.getElem?_set_ne hj] at q2
        show upd w.F a (.lst xs) b = none
        rw [upd_ne (fun z => hj (nea q1 z))]
        exact h.thF j b u q1 q2 q3
    ls := fun s1 S q => by
      obtain ⟨h1, h2⟩ := h.ls s1 S q
      refine ⟨h1, fun b hb => ?_⟩
      obtain ⟨q1, q2, o, q3⟩ := h2 b hb
      refine ⟨?_, q2, o, q3⟩
      show upd w.F a (.lst xs) b = none
      rw [upd_ne (fun z => q2 (by rw [z]; exact List.mem_of_getElem? e))]; exact q1
    flag := h.flag }
/-- the last objects are let go -/
def Wd.cut (w : Wd) (n : Nat) : Wd := ⟨w.F, w.th.take n, w.S⟩
def MM.cut (m : MM) (n : Nat) : MM := ⟨m.M.take n, m.s⟩
mutual
def clD (n : Nat) : D → Bool
  | .hnd k => decide (k < n)
  | .lst ds => clAll n ds
  | .tup ds => clAll n ds
  | .rol ds => clAll n ds
  | .rot ds => clAll n ds
  | .exc _ _ _ fs => clF n fs
  | _ => true
def clAll (n : Nat) : List D → Bool
  | [] => true
  | d :: ds => clD n d && clAll n ds
def clF (n : Nat) : List (String × D) → Bool
  | [] => true
  | (_, d) :: ds => clD n d && clF n ds
end
def clO (n : Nat) : MO → Bool
  | .lst ds => clAll n ds
  | .ins _ fs => clF n fs
  | .dead => true
mutual
theorem Rep.cl : ∀ (d : D) (v : V), Rep K w d v → clD w.th.length d = true
  | .non, _, _ => rfl
  | .bl _, _, _ => rfl
  | .int _, _, _ => rfl
  | .str _, _, _ => rfl
  | .ty _, _, _ => rfl
  | .cls _, _, _ => rfl
  | .st _, _, _ => rfl
  | .lst ds, _, ⟨_, xs, _, _, r⟩ => RepAll.cl ds xs r
  | .tup ds, _, ⟨_, xs, _, _, r⟩ => RepAll.cl ds xs r
  | .rol ds, _, ⟨_, xs, _, _, r⟩ => RepAll.cl ds xs r
  | .rot ds, _, ⟨_, xs, _, _, r⟩ => RepAll.cl ds xs r
  | .exc _ _ _ fs, _, ⟨_, xs, _, r⟩ => RepF.cl fs xs r
  | .hnd k, _, ⟨a, _, q⟩ => by
    show decide (k < w.th.length) = true
    exact decide_eq_true (List.getElem?_eq_some_iff.mp q).1
theorem RepAll.cl : ∀ (ds : List D) (vs : List V), RepAll K w ds vs → clAll w.th.length ds = true
  | [], _, _ => rfl
  | d :: ds, _, ⟨v, r, _, a, b⟩ => by
    show (clD _ d && clAll _ ds) = true
    rw [Rep.cl d v a, RepAll.cl ds r b]; rfl
theorem RepF.cl : ∀ (ds : List (String × D)) (vs : List (Str × V)), RepF K w ds vs → clF w.th.length ds = true
  | [], _, _ => rfl
  | (f, d) :: ds, _, ⟨v, r, _, a, b⟩ => by
    show (clD _ d && clF _ ds) = true
    rw [Rep.cl d v a, RepF.cl ds r b]; rfl
end
mutual
theorem Rep.cut {n : Nat} : ∀ (d : D) (v : V), Rep K w d v → clD n d = true → Rep K (w.cut n) d v
  | .non, _, h, _ => h
  | .bl _, _, h, _ => h
  | .int _, _, h, _ => h
  | .str _, _, h, _ => h
  | .ty _, _, h, _ => h
  | .cls _, _, h, _ => h
  | .st _, _, h, _ => h
  | .lst ds, _, ⟨a, xs, e, q, r⟩, c => ⟨a, xs, e, q, RepAll.cut ds xs r c⟩
  | .tup ds, _, ⟨a, xs, e, q, r⟩, c => ⟨a, xs, e, q, RepAll.cut ds xs r c⟩
  | .rol ds, _, ⟨a, xs, e, q, r⟩, c => ⟨a, xs, e, q, RepAll.cut ds xs r c⟩
  | .rot ds, _, ⟨a, xs, e, q, r⟩, c => ⟨a, xs, e, q, RepAll.cut ds xs r c⟩
  | .exc _ _ _ fs, _, ⟨e, xs, q, r⟩, c => ⟨e, xs, q, RepF.cut fs xs r c⟩
  | .hnd k, _, ⟨a, e, q⟩, c => ⟨a, e, by
    have c : decide (k < n) = true := c
    have c := of_decide_eq_true c
    show (w.th.take n)[k]? = some a
    rw [List.getElem?_take_of_lt c]; exact q⟩
theorem RepAll.cut {n : Nat} : ∀ (ds : List D) (vs : List V), RepAll K w ds vs → clAll n ds = true → RepAll K (w.cut n) ds vs
  | [], _, h, _ => h
  | d :: ds, _, ⟨v, r, e, a, b⟩, c => by
    have c : (clD n d && clAll n ds) = true := c
    rw [Bool.and_eq_true] at c
    exact ⟨v, r, e, Rep.cut d v a c.1, RepAll.cut ds r b c.2⟩
theorem RepF.cut {n : Nat} : ∀ (ds : List (String × D)) (vs : List (Str × V)), RepF K w ds vs → clF n ds = true → RepF K (w.cut n) ds vs
  | [], _, h, _ => h
  | (f, d) :: ds, _, ⟨v, r, e, a, b⟩, c => by
    have c : (clD n d && clF n ds) = true := c
    rw [Bool.and_eq_true] at c
    exact ⟨v, r, e, Rep.cut d v a c.1, RepF.cut ds r b c.2⟩
end
theorem ORep.cut {n : Nat} : ∀ {o : MO}, ORep K w H a o → clO n o = true → ORep K (w.cut n) H a o
  | .lst ds, ⟨xs, q, r⟩, c => ⟨xs, q, RepAll.cut ds xs r c⟩
  | .ins C fs, ⟨dx, vs, q, r⟩, c => ⟨dx, vs, q, RepF.cut fs vs r c⟩
  | .dead, h, _ => h
theorem ORep.cl : ∀ {o : MO}, ORep K w H a o → clO w.th.length o = true
  | .lst ds, ⟨xs, q, r⟩ => RepAll.cl ds xs r
  | .ins C fs, ⟨dx, vs, q, r⟩ => RepF.cl fs vs r
  | .dead, h => rfl
theorem HRep.cut {n : Nat} (h : HRep K w m H) (c : ∀ o ∈ m.M.take n, clO n o = true) : HRep K (w.cut n) (m.cut n) H where
  ext := h.ext
  len := by show (w.th.take n).length = (m.M.take n).length; rw [List.length_take, List.length_take, h.len]
  nd := h.nd.sublist (List.take_sublist _ _)
  obj := fun k a o q1 q2 => by
    have q1 : (w.th.take n)[k]? = some a := q1
    have q2 : (m.M.take n)[k]? = some o := q2
    have hk : k < n := by
      have z := (List.getElem?_eq_some_iff.mp q1).1
      rw [List.length_take] at z; omega
    have cc := c o (List.mem_of_getElem? q2)
    rw [List.getElem?_take_of_lt hk] at q1 q2
    exact (h.obj k a o q1 q2).cut cc
  thF := fun k a o q1 q2 q3 => by
    have q1 : (w.th.take n)[k]? = some a := q1
    have q2 : (m.M.take n)[k]? = some o := q2
    have hk : k < n := by
      have z := (List.getElem?_eq_some_iff.mp q1).1
      rw [List.length_take] at z; omega
    rw [List.getElem?_take_of_lt hk] at q1 q2
    exact h.thF k a o q1 q2 q3
  ls := fun s1 S q => by
    obtain ⟨h1, h2⟩ := h.ls s1 S q
    exact ⟨h1, fun a ha => ⟨(h2 a ha).1, fun z => (h2 a ha).2.1 (List.mem_of_mem_take z), (h2 a ha).2.2⟩⟩
  flag := h.flag
/-- objects as they were at an entry bear no later handles -/
theorem HRep.cls (h : HRep K w m H) : ∀ o ∈ m.M, clO m.M.length o = true := fun o ho => by
  obtain ⟨k, hk, rfl⟩ := List.mem_iff_getElem.mp ho
  have hk2 : k < w.th.length := by rw [h.len]; exact hk
  have z := (h.obj k _ _ (List.getElem?_eq_getElem hk2) (List.getElem?_eq_getElem hk)).cl
  rw [h.len] at z; exact z
theorem Wd.le_cut {w0 : Wd} {n : Nat} (l : w0.le w) (hn : w0.th.length ≤ n) : w0.le (w.cut n) := ⟨l.F, fun k a e => by
  show (w.th.take n)[k]? = some a
  rw [List.getElem?_take_of_lt (Nat.lt_of_lt_of_le (List.getElem?_eq_some_iff.mp e).1 hn)]; exact l.th k a e, l.S⟩
end
end Dl

namespace Dl
open PySem L2 PyProof.Rows

/-! ### expressions -/
def dVar (i : Nat) : DE := fun ρ m Φ _ => match ρ[i]? with
  | some (some d) => Φ d m
  | _ => False
def dC (d : D) : DE := fun _ m Φ _ => Φ d m
section
variable {X : Cx} {E : WX} {a b c : Expr} {Wa Wb Wc : DE} {pos : Pos}
theorem je_var (i : Nat) {x : Str} {pos : Pos} (hN : X.N[i]? = some x := by rfl) (hv : Vis X.env.scope x := by first | exact Or.inl rfl | exact Or.inr (Or.inl rfl) | exact Or.inr (Or.inr rfl)) (hd : (x == ("__debug__" : Str)) = false := by decide)
    (hcd : (x == ("__classdict__" : Str)) = false := by decide) : JE X E (.Name x pos) (dVar i) := PE.imp (pe_var hN hv hd hcd) fun σ H Q ⟨w, ρ, m, Ψ, Φ, a, vl, h⟩ => by
  unfold dVar at h
  split at h
  · rename_i d e
    obtain ⟨v, e1, r⟩ := a.s.2 i d e
    exact ⟨v, e1, vl d m w H v (.refl w) a.h r h⟩
  · exact h.elim
theorem je_of {e : Expr} {v : V} {d : D} (h : PE X e (tC v)) (r : ∀ w, Rep X.K w d v) : JE X E e (dC d) := PE.imp h fun σ H Q ⟨w, ρ, m, Ψ, Φ, a, vl, h⟩ => vl d m w H v (.refl w) a.h (r w) h
theorem je_int {i j pos} : JE X E (.Constant (.int i) j pos) (dC (.int i)) := je_of pe_int fun _ => rfl
theorem je_bl {b j pos} : JE X E (.Constant (.bool b) j pos) (dC (.bl b)) := je_of pe_bl fun _ => rfl
theorem je_non {j pos} : JE X E (.Constant .none j pos) (dC .non) := je_of pe_non fun _ => rfl
theorem je_str {x j pos} : JE X E (.Constant (.str x) j pos) (dC (.str x)) := je_of pe_str fun _ => rfl
/-- a constant of the module that is an int -/
theorem je_globI {x : Str} {i : Int} {t : Tok} {pos : Pos} (hg : Gl X x) (hm : X.mg x = some (.int i t)) (hd : (x == ("__debug__" : Str)) = false := by decide) : JE X E (.Name x pos) (dC (.int i)) := je_of (v := .int i) (pe_glob hg hm ⟨_, rfl⟩ hd) fun _ => rfl

/-- an operation on values, lifted -/
abbrev DO := D → D → MM → (D → MM → Prop) → Prop
def OpL (K : PySem.W.Frag) (r : R2) (o : DO) : Prop := ∀ w m H x y u v Q Φ, HRep K w m H → Rep K w x u → Rep K w y v → VLift K w Q Φ → o x y m Φ → r u v H Q
def dOp (o : DO) (a b : DE) : DE := fun ρ m Φ Ψ => a ρ m (fun x m1 => b ρ m1 (fun y m2 => o x y m2 Φ) Ψ) Ψ
theorem dOp_ok {r : R2} {o : DO} (hl : OpL X.K r o) {σ : L2.St} {H : Hp} {Q : VK} (h : lift X.K E (dOp o Wa Wb) σ H Q) : tOp r (lift X.K E Wa) (lift X.K E Wb) σ H Q := by
  obtain ⟨w, ρ, m, Ψ, Φ, a, vl, h⟩ := h
  refine ⟨w, ρ, m, Ψ, _, a, fun x m1 w1 H1 u l1 h1 r1 q1 => ?_, h⟩
  refine ⟨w1, ρ, m1, Ψ, _, a.to l1 h1, fun y m2 w2 H2 v l2 h2 r2 q2 => ?_, q1⟩
  exact hl w2 m2 H2 x y u v Q Φ h2 (Rep.mono l2 _ _ r1) r2 (vl.mono (l1.trans l2)) q2
theorem je_op {op : Operator} {r : R2} {o : DO} (ho : OpR X (binaryOp op) r) (hl : OpL X.K r o) (ha : JE X E a Wa) (hb : JE X E b Wb) : JE X E (.BinOp a op b pos) (dOp o Wa Wb) := PE.imp (pe_op ho ha hb) fun _ _ _ h => dOp_ok hl h
theorem je_cmp {op : CmpOp} {r : R2} {o : DO} (ho : OpR X (compareOp op) r) (hl : OpL X.K r o) (ha : JE X E a Wa) (hb : JE X E b Wb) (hm : behindInMarks op b = false) : JE X E (.Compare a [op] [b] pos) (dOp o Wa Wb) := PE.imp (pe_cmpR ho ha hb hm) fun _ _ _ h => dOp_ok hl h
/-- a value that is True or False, as a test -/
def dB (W : DE) : DT := fun ρ m Φ Ψ => W ρ m (fun d m1 => match d with
  | .bl b => Φ b m1
  | _ => False) Ψ
theorem dB_ok {t : TE} {W : DE} (ht : ∀ σ H Q, lift X.K E W σ H Q → t σ H Q) {σ : L2.St} {H : Hp} {Q : Bool → Hp → Prop} (h : liftT X.K E (dB W) σ H Q) : tTest t σ H Q := by
  obtain ⟨w, ρ, m, Ψ, Φ, a, vl, h⟩ := h
  refine ht σ H _ ⟨w, ρ, m, Ψ, _, a, fun d m1 w1 H1 v l1 h1 r1 q1 => ?_, h⟩
  cases d with
  | bl b => exact ⟨b, r1, vl b m1 w1 H1 l1 h1 q1⟩
  | _ => exact False.elim q1
theorem jt_cmp {op : CmpOp} {r : R2} {o : DO} (ho : OpR X (compareOp op) r) (hl : OpL X.K r o) (ha : JE X E a Wa) (hb : JE X E b Wb) (hm : behindInMarks op b = false) : JT X E (.Compare a [op] [b] pos) (dB (dOp o Wa Wb)) :=
  PT.imp (pt_cmpR ho ha hb hm) fun _ _ _ h => dB_ok (fun _ _ _ h => dOp_ok hl h) h
theorem jt_val {e : Expr} {W : DE} (h : JE X E e W) (he : ∀ whole, isTrue e X.env whole = (do let v ← whole; standAt e.pos; holding [v] (truthy v)) := by intro _; rfl) : JT X E e (dB W) :=
  PT.imp (pt_val h he) fun _ _ _ h => dB_ok (t := lift X.K E W) (fun _ _ _ h => h) h
/-- a op1 b op2 c -/
def dChain (o o' : DO) (a b c : DE) : DE := fun ρ m Φ Ψ => a ρ m (fun x m1 => b ρ m1 (fun y m2 => o x y m2 (fun z m3 => match z with
  | .bl k => if k = true then c ρ m3 (fun u m4 => o' y u m4 Φ) Ψ else Φ (.bl false) m3
  | _ => False)) Ψ) Ψ
theorem dChain_ok {r r' : R2} {o o' : DO} (hl : OpL X.K r o) (hl' : OpL X.K r' o') {σ : L2.St} {H : Hp} {Q : VK} (h : lift X.K E (dChain o o' Wa Wb Wc) σ H Q) : tChain r r' (lift X.K E Wa) (lift X.K E Wb) (lift X.K E Wc) σ H Q := by
  obtain ⟨w, ρ, m, Ψ, Φ, a, vl, h⟩ := h
  refine ⟨w, ρ, m, Ψ, _, a, fun x m1 w1 H1 u l1 h1 r1 q1 => ?_, h⟩
  refine ⟨w1, ρ, m1, Ψ, _, a.to l1 h1, fun y m2 w2 H2 v l2 h2 r2 q2 => ?_, q1⟩
  refine hl w2 m2 H2 x y u v _ _ h2 (Rep.mono l2 _ _ r1) r2 (fun z m3 w3 H3 zv l3 h3 r3 q3 => ?_) q2
  cases z with
  | bl k =>
    refine ⟨k, r3, ?_⟩
    cases k with
    | true =>
      have q3 : Wc ρ m3 (fun u m4 => o' y u m4 Φ) Ψ := q3
      rw [if_pos rfl]
      have l13 := l1.trans (l2.trans l3)
      refine ⟨w3, ρ, m3, Ψ, _, a.to l13 h3, fun d m4 w4 H4 v4 l4 h4 r4 q4 => ?_, q3⟩
      exact hl' w4 m4 H4 y d v v4 Q Φ h4 (Rep.mono (l3.trans l4) _ _ r2) r4 (vl.mono (l13.trans l4)) q4
    | false =>
      have q3 : Φ (.bl false) m3 := q3
      rw [if_neg Bool.false_ne_true]
      exact vl (.bl false) _ w3 H3 _ (l1.trans (l2.trans l3)) h3 rfl q3
  | _ => exact False.elim q3
theorem je_chain {op op' : CmpOp} {r r' : R2} {o o' : DO} (ho : OpR X (compareOp op) r) (hl : OpL X.K r o) (ho' : OpR X (compareOp op') r') (hl' : OpL X.K r' o') (ha : JE X E a Wa) (hb : JE X E b Wb) (hc : JE X E c Wc)
    (hm : lastMarks [op, op'] [b, c] = false := by with_unfolding_all rfl) : JE X E (.Compare a [op, op'] [b, c] pos) (dChain o o' Wa Wb Wc) := PE.imp (pe_chain ho ho' ha hb hc hm) fun _ _ _ h => dChain_ok hl hl' h
theorem jt_chain {op op' : CmpOp} {r r' : R2} {o o' : DO} (ho : OpR X (compareOp op) r) (hl : OpL X.K r o) (ho' : OpR X (compareOp op') r') (hl' : OpL X.K r' o') (ha : JE X E a Wa) (hb : JE X E b Wb) (hc : JE X E c Wc)
    (hm : lastMarks [op, op'] [b, c] = false := by with_unfolding_all rfl) : JT X E (.Compare a [op, op'] [b, c] pos) (dB (dChain o o' Wa Wb Wc)) := PT.imp (pt_chain ho ho' ha hb hc hm) fun _ _ _ h => dB_ok (fun _ _ _ h => dChain_ok hl hl' h) h
/-- one-place operations -/
abbrev DO1 := D → MM → (D → MM → Prop) → Prop
def dUn (o : DO1) (a : DE) : DE := fun ρ m Φ Ψ => a ρ m (fun x m1 => o x m1 Φ) Ψ
def UnL (K : PySem.W.Frag) (r : V → Hp → VK → Prop) (o : DO1) : Prop := ∀ w m H x u Q Φ, HRep K w m H → Rep K w x u → VLift K w Q Φ → o x m Φ → r u H Q
theorem je_un {op : UnaryOp} {r : V → Hp → VK → Prop} {o : DO1} (ho : UnR X (unaryOp op) r) (hl : UnL X.K r o) (ha : JE X E a Wa) : JE X E (.UnaryOp op a pos) (dUn o Wa) := PE.imp (pe_un ho ha) fun σ H Q ⟨w, ρ, m, Ψ, Φ, a, vl, h⟩ =>
  ⟨w, ρ, m, Ψ, _, a, fun x m1 w1 H1 u l1 h1 r1 q1 => hl w1 m1 H1 x u Q Φ h1 r1 (vl.mono l1) q1, h⟩

/-! ### tests -/
variable {tA tB' : DT} {rest : List Expr}
def dAnd (t u : DT) : DT := fun ρ m Φ Ψ => t ρ m (fun c m1 => if c = true then u ρ m1 Φ Ψ else Φ false m1) Ψ
def dOr (t u : DT) : DT := fun ρ m Φ Ψ => t ρ m (fun c m1 => if c = true then Φ true m1 else u ρ m1 Φ Ψ) Ψ
def dNot (t : DT) : DT := fun ρ m Φ Ψ => t ρ m (fun c m1 => Φ (!c) m1) Ψ
theorem jw_and1 (ha : JT X E a tA) : JW X E (.BoolOp .And [a] pos) tA := pw_and1 ha
theorem jw_or1 (ha : JT X E a tA) : JW X E (.BoolOp .Or [a] pos) tA := pw_or1 ha
theorem jw_and (ha : JT X E a tA) (hb : JW X E (.BoolOp .And (b :: rest) pos) tB') : JW X E (.BoolOp .And (a :: b :: rest) pos) (dAnd tA tB') := PW.imp (pw_and ha hb) fun σ H Q ⟨w, ρ, m, Ψ, Φ, a, vl, h⟩ => by
  refine ⟨w, ρ, m, Ψ, _, a, fun c m1 w1 H1 l1 h1 q1 => ?_, h⟩
  cases c with
  | true => exact ⟨w1, ρ, m1, Ψ, Φ, a.to l1 h1, fun b m2 w2 H2 l2 h2 q2 => vl b m2 w2 H2 (l1.trans l2) h2 q2, q1⟩
  | false => exact vl false m1 w1 H1 l1 h1 q1
theorem jw_or (ha : JT X E a tA) (hb : JW X E (.BoolOp .Or (b :: rest) pos) tB') : JW X E (.BoolOp .Or (a :: b :: rest) pos) (dOr tA tB') := PW.imp (pw_or ha hb) fun σ H Q ⟨w, ρ, m, Ψ, Φ, a, vl, h⟩ => by
  refine ⟨w, ρ, m, Ψ, _, a, fun c m1 w1 H1 l1 h1 q1 => ?_, h⟩
  cases c with
  | false => exact ⟨w1, ρ, m1, Ψ, Φ, a.to l1 h1, fun b m2 w2 H2 l2 h2 q2 => vl b m2 w2 H2 (l1.trans l2) h2 q2, q1⟩
  | true => exact vl true m1 w1 H1 l1 h1 q1
theorem jt_not (ha : JT X E a tA) : JT X E (.UnaryOp .Not a pos) (dNot tA) := PT.imp (pt_not ha) fun σ H Q ⟨w, ρ, m, Ψ, Φ, a, vl, h⟩ =>
  ⟨w, ρ, m, Ψ, _, a, fun c m1 w1 H1 l1 h1 q1 => vl (!c) m1 w1 H1 l1 h1 q1, h⟩
/-- and, or, not as values of True and False -/
def dBlV (d : D) (f : Bool → Prop) : Prop := match d with
  | .bl b => f b
  | _ => False
def dAndV (a b : DE) : DE := fun ρ m Φ Ψ => a ρ m (fun x m1 => dBlV x fun c => if c = true then b ρ m1 Φ Ψ else Φ (.bl false) m1) Ψ
def dOrV (a b : DE) : DE := fun ρ m Φ Ψ => a ρ m (fun x m1 => dBlV x fun c => if c = true then Φ (.bl true) m1 else b ρ m1 Φ Ψ) Ψ
def dNotV (a : DE) : DE := fun ρ m Φ Ψ => a ρ m (fun x m1 => dBlV x fun c => Φ (.bl (!c)) m1) Ψ
theorem je_one {op} (h : JE X E a Wa) : JE X E (.BoolOp op [a] pos) Wa := pe_one h
theorem je_and (ha : JE X E a Wa) (hb : JE X E (.BoolOp .And (b :: rest) pos) Wb) : JE X E (.BoolOp .And (a :: b :: rest) pos) (dAndV Wa Wb) := PE.imp (pe_and ha hb) fun σ H Q ⟨w, ρ, m, Ψ, Φ, a, vl, h⟩ => by
  refine ⟨w, ρ, m, Ψ, _, a, fun c m1 w1 H1 v l1 h1 r1 q1 => ?_, h⟩
  cases c with
  | bl c =>
    refine ⟨c, r1, ?_⟩
    cases c with
    | true => exact ⟨w1, ρ, m1, Ψ, Φ, a.to l1 h1, vl.mono l1, q1⟩
    | false => exact vl (.bl false) m1 w1 H1 _ l1 h1 rfl q1
  | _ => exact False.elim q1
theorem je_not (ha : JE X E a Wa) : JE X E (.UnaryOp .Not a pos) (dNotV Wa) := PE.imp (pe_not ha) fun σ H Q ⟨w, ρ, m, Ψ, Φ, a, vl, h⟩ => by
  refine ⟨w, ρ, m, Ψ, _, a, fun c m1 w1 H1 v l1 h1 r1 q1 => ?_, h⟩
  cases c with
  | bl c => exact ⟨c, r1, vl (.bl (!c)) m1 w1 H1 _ l1 h1 rfl q1⟩
  | _ => exact False.elim q1
def dIfE (t : DT) (a b : DE) : DE := fun ρ m Φ Ψ => t ρ m (fun c m1 => if c = true then a ρ m1 Φ Ψ else b ρ m1 Φ Ψ) Ψ
theorem je_ifExp {c : Expr} (hc : JT X E c tA) (ha : JE X E a Wa) (hb : JE X E b Wb) : JE X E (.IfExp c a b pos) (dIfE tA Wa Wb) := PE.imp (pe_ifExp hc ha hb) fun σ H Q ⟨w, ρ, m, Ψ, Φ, a, vl, h⟩ => by
  refine ⟨w, ρ, m, Ψ, _, a, fun c m1 w1 H1 l1 h1 q1 => ?_, h⟩
  cases c with
  | true => exact ⟨w1, ρ, m1, Ψ, Φ, a.to l1 h1, vl.mono l1, q1⟩
  | false => exact ⟨w1, ρ, m1, Ψ, Φ, a.to l1 h1, vl.mono l1, q1⟩

/-! ### argument lists, displays -/
variable {es : List Expr} {Ws : DA}
def dNil : DA := fun _ m Φ _ => Φ [] m
def dCons (a : DE) (r : DA) : DA := fun ρ m Φ Ψ => a ρ m (fun x m1 => r ρ m1 (fun xs m2 => Φ (x :: xs) m2) Ψ) Ψ
theorem ja_nil : JA X E [] dNil := PA.imp pa_nil fun σ H Q ⟨w, ρ, m, Ψ, Φ, a, vl, h⟩ => vl [] m w H [] (.refl w) a.h rfl h
theorem ja_cons (ha : JE X E a Wa) (hr : JA X E es Ws) (hs : starEach (a :: es) X.env = (false, eval a X.env) :: starEach es X.env := by rfl) : JA X E (a :: es) (dCons Wa Ws) := PA.imp (pa_cons ha hr hs) fun σ H Q ⟨w, ρ, m, Ψ, Φ, a, vl, h⟩ => by
  refine ⟨w, ρ, m, Ψ, _, a, fun x m1 w1 H1 v l1 h1 r1 q1 => ?_, h⟩
  exact ⟨w1, ρ, m1, Ψ, _, a.to l1 h1, fun ds m2 w2 H2 vs l2 h2 r2 q2 => vl (x :: ds) m2 w2 H2 _ (l1.trans l2) h2 ⟨v, vs, rfl, Rep.mono l2 _ _ r1, r2⟩ q2, q1⟩
abbrev LIM : Nat := 16777216
theorem lim_sz {n : Nat} (h : n ≤ LIM) : n ≤ sizeLine := by rw [sizeLine_eq]; exact h
theorem lim_lt {n : Nat} (h : n < LIM) : n < sizeLine := by rw [sizeLine_eq]; exact h
def dLst (r : DA) : DE := fun ρ m Φ Ψ => r ρ m (fun ds m1 => ds.length ≤ LIM ∧ Φ (.lst ds) m1) Ψ
def dTup (r : DA) : DE := fun ρ m Φ Ψ => r ρ m (fun ds m1 => ds.length ≤ LIM ∧ Φ (.tup ds) m1) Ψ
def dLstM (r : DA) : DE := fun ρ m Φ Ψ => r ρ m (fun ds m1 => ds.length ≤ LIM ∧ Φ (.hnd m1.M.length) (m1.push (.lst ds))) Ψ
theorem je_lst (h : JA X E es Ws) : JE X E (.List es pos) (dLst Ws) := PE.imp (pe_lst h) fun σ H Q ⟨w, ρ, m, Ψ, Φ, a, vl, h⟩ =>
  ⟨w, ρ, m, Ψ, _, a, fun ds m1 w1 H1 vs l1 h1 r1 ⟨z, q1⟩ => ⟨lim_sz (by rw [r1.length]; exact z), fun p hp => vl _ m1 _ _ _ (l1.trans (Wd.le_put (h1.nof hp))) (h1.put hp) (rep_put_lst h1 hp r1) q1⟩, h⟩
theorem je_tup {x1} (h : JA X E es Ws) : JE X E (.Tuple es x1 pos) (dTup Ws) := PE.imp (pe_tup h) fun σ H Q ⟨w, ρ, m, Ψ, Φ, a, vl, h⟩ =>
  ⟨w, ρ, m, Ψ, _, a, fun ds m1 w1 H1 vs l1 h1 r1 ⟨z, q1⟩ => ⟨lim_sz (by rw [r1.length]; exact z), fun p hp => vl _ m1 _ _ _ (l1.trans (Wd.le_put (h1.nof hp))) (h1.put hp) (rep_put_tup h1 hp r1) q1⟩, h⟩
theorem je_lstM (h : JA X E es Ws) : JE X E (.List es pos) (dLstM Ws) := PE.imp (pe_lst h) fun σ H Q ⟨w, ρ, m, Ψ, Φ, a, vl, h⟩ =>
  ⟨w, ρ, m, Ψ, _, a, fun ds m1 w1 H1 vs l1 h1 r1 ⟨z, q1⟩ => ⟨lim_sz (by rw [r1.length]; exact z), fun p hp => vl _ _ _ _ _ (l1.trans Wd.le_add) (h1.add (o := .lst ds) hp ⟨vs, upd_same, RepAll.mono Wd.le_add _ _ r1⟩) (rep_add h1) q1⟩, h⟩

/-! ### calls -/
/-- what a def is worth: arguments, store, wanted end, wanted exception -/
abbrev DC := List D → MM → (D → MM → Prop) → XP → Prop
def spOf (K : PySem.W.Frag) (n : Nat) (C : DC) : Sp := fun vs H Q E => vs.length = n ∧ ∃ w ds m Φ Ψ, HRep K w m H ∧ RepAll K w ds vs ∧ VLift K w Q Φ ∧ XLift K w (fun cls d _ H => E cls d H) [] Ψ ∧ C ds m Φ Ψ
def dCall (n : Nat) (C : DC) (r : DA) : DE := fun ρ m Φ Ψ => r ρ m (fun ds m1 => ds.length = n ∧ C ds m1 Φ Ψ) Ψ
variable {k n : Nat} {f : Addr} {fd : FuncData} {ps : List Str} {C : DC} {x : Str} {p : Pos}
theorem call_ok {w : Wd} {ρ : Env} {m : MM} {Ψ : XP} {Φ : D → MM → Prop} {σ : L2.St} {H : Hp} {Q : VK} {ds : List D} {vs : List V} (a : At X.K E w σ H ρ m Ψ) (vl : VLift X.K w Q Φ) (r : RepAll X.K w ds vs) (hn : ds.length = n) (c : C ds m Φ Ψ) :
    spOf X.K n C (vs ++ []) H Q (WE E σ) := by
  rw [List.append_nil]
  exact ⟨r.length.trans hn, w, ds, m, Φ, Ψ, a.h, r, vl, fun C fs m' w' H' d xs l h b c q => a.x C fs m' w' H' d xs l h b c q, c⟩
theorem je_call {e : Expr} (tk : Takes X E) (F : FnOk X.prog X.w X.K X.mg X.base (L2.CX X.prog X.w) k f fd ps (spOf X.K n C)) (hr : Room k X.A) (hg : Gl X x) (hm : X.mg x = some (.ref f)) (hk : PySem.W.keepIn X.K (.ref f) = true) (hb : Binds X.K fd ps [])
    (ha : JA X E (e :: es) Ws) (hdb : (x == ("__debug__" : Str)) = false := by decide) (he : starEach (e :: es) X.env = (false, eval e X.env) :: starEach es X.env := by rfl) (hpl : (backTo pos (starEach es X.env)).any (·.1) = false := by rfl) :
    JE X E (.Call (.Name x p) (e :: es) [] pos) (dCall n C Ws) := PE.imp (pe_callS F hr hg hm hk hb (fun σ => passAt tk σ) ha hdb he hpl) fun σ H Q ⟨w, ρ, m, Ψ, Φ, a, vl, h⟩ =>
  ⟨w, ρ, m, Ψ, _, a, fun ds m1 w1 H1 vs l1 h1 r1 ⟨hn, q1⟩ => by
    have z := call_ok (C := C) (a.to l1 h1) (vl.mono l1) r1 hn q1
    rw [List.append_nil] at z
    exact z, h⟩
end
end Dl

namespace Dl
open PySem L2 PyProof.Rows

/-! ### statements -/
def dNext : DS := fun N _ ρ m => N.nx ρ m
def dSeq (t u : DS) : DS := fun N Ψ ρ m => t { N with nx := u N Ψ } Ψ ρ m
def dBreak : DS := fun N _ ρ m => N.bk ρ m
def dDrop (e : DE) : DS := fun N Ψ ρ m => e ρ m (fun _ m1 => N.nx ρ m1) (Ψ ρ)
def dRet (e : DE) : DS := fun N Ψ ρ m => e ρ m N.rt (Ψ ρ)
def dRetN : DS := fun N _ _ m => N.rt .non m
def dIf (c : DT) (t u : DS) : DS := fun N Ψ ρ m => c ρ m (fun b m1 => if b = true then t N Ψ ρ m1 else u N Ψ ρ m1) (Ψ ρ)
def dSet (i : Nat) (e : DE) : DS := fun N Ψ ρ m => e ρ m (fun d m1 => N.nx (ρ.set i (some d)) m1) (Ψ ρ)
/-- targets -/
abbrev DG := D → Env → MM → (Env → MM → Prop) → Prop
def dgName (i : Nat) : DG := fun d ρ m k => k (ρ.set i (some d)) m
def bindD : List Nat → List D → Env → Env
  | i :: is, d :: ds, ρ => bindD is ds (ρ.set i (some d))
  | _, _, ρ => ρ
def asT : D → Option (List D)
  | .tup ds => some ds
  | .rot ds => some ds
  | _ => none
def dgTup (is : List Nat) : DG := fun d ρ m k => match asT d with
  | some ds => ds.length = is.length ∧ k (bindD is ds ρ) m
  | none => False
def dAsg (e : DE) (g : DG) : DS := fun N Ψ ρ m => e ρ m (fun d m1 => g d ρ m1 N.nx) (Ψ ρ)
def dAug (i : Nat) (o : DO) (e : DE) : DS := fun N Ψ ρ m => match ρ[i]? with
  | some (some x) => e ρ m (fun y m1 => o x y m1 (fun z m2 => N.nx (ρ.set i (some z)) m2)) (Ψ ρ)
  | _ => False
/-- iteration -/
abbrev DI := Env → MM → (List D → MM → Prop) → XP → Prop
def forW (g : DG) (body : DS) (N : DN) (Ψ : XS) : List D → Env → MM → Prop
  | [], ρ, m => N.nx ρ m
  | d :: ds, ρ, m => g d ρ m fun ρ1 m1 => body { N with nx := forW g body N Ψ ds, ct := forW g body N Ψ ds, bk := N.nx } Ψ ρ1 m1
def dFor (it : DI) (g : DG) (body : DS) : DS := fun N Ψ ρ m => it ρ m (fun ds m1 => forW g body N Ψ ds ρ m1) (Ψ ρ)
def dWhile (c : DT) (body : DS) : DS := fun N Ψ ρ m => ∃ W : Nat → Env → MM → Prop, (∃ n, W n ρ m) ∧ ∀ n ρ m, W n ρ m →
  c ρ m (fun b m1 => if b = true then body { N with nx := fun ρ' m' => ∃ n', n' < n ∧ W n' ρ' m', ct := fun ρ' m' => ∃ n', n' < n ∧ W n' ρ' m', bk := N.nx } Ψ ρ m1 else N.nx ρ m1) (Ψ ρ)

section
variable {X : Cx} {E : WX} {a b c : Expr} {Wa Wb Wc : DE} {pos : Pos} {st : Stmt} {rest body : List Stmt} {t u : DS} {tc : DT}
theorem NLift.with {K : PySem.W.Frag} {w : Wd} {D : Ends} {N : DN} (h : NLift K w D N) {q : L2.St → Hp → Prop} {f : Env → MM → Prop} (s : SLift K w q f) : NLift K w { D with nx := q } { N with nx := f } := ⟨s, h.rt, h.bk, h.ct⟩
theorem jss_nil : JSs X E [] dNext := PSs.imp pss_nil fun D σ H ⟨w, ρ, m, Ψ, N, a, n, h⟩ => n.nx ρ m w H σ (.refl w) a.h a.s h
theorem jss_cons (h1 : JS X E st t) (h2 : JSs X E rest u) : JSs X E (st :: rest) (dSeq t u) := PSs.imp (pss_cons h1 h2) fun D σ H ⟨w, ρ, m, Ψ, N, a, n, h⟩ =>
  ⟨w, ρ, m, Ψ, { N with nx := u N Ψ }, a, n.with fun ρ' m' w' H' σ' l h' s' q => ⟨w', ρ', m', Ψ, N, ⟨h', s', a.x.mono l⟩, n.mono l, q⟩, h⟩
theorem jss_one (h1 : JS X E st t) : JSs X E [st] t := pss_one h1
theorem js_break : JS X E (.Break pos) dBreak := PS.imp ps_break fun D σ H ⟨w, ρ, m, Ψ, N, a, n, h⟩ => n.bk ρ m w H σ (.refl w) a.h a.s h
theorem js_expr (he : JE X E a Wa) (hs : swapsWith a none pos.line X.env = pure false := by rfl) : JS X E (.Expr a pos) (dDrop Wa) := PS.imp (ps_expr he hs) fun D σ H ⟨w, ρ, m, Ψ, N, a, n, h⟩ =>
  ⟨w, ρ, m, Ψ ρ, _, a.at, fun d m1 w1 H1 v l1 h1 r1 q1 => n.nx ρ m1 w1 H1 σ l1 h1 (a.s.mono l1) q1, h⟩
theorem js_ret (he : JE X E a Wa) : JS X E (.Return (some a) pos) (dRet Wa) := PS.imp (ps_ret he) fun D σ H ⟨w, ρ, m, Ψ, N, a, n, h⟩ => ⟨w, ρ, m, Ψ ρ, _, a.at, n.rt, h⟩
theorem js_if {A B : List Stmt} (hc : JT X E c tc) (ha : JSs X E A t) (hb : JSs X E B u) : JS X E (.If c A B pos) (dIf tc t u) := PS.imp (ps_if hc ha hb) fun D σ H ⟨w, ρ, m, Ψ, N, a, n, h⟩ => by
  refine ⟨w, ρ, m, Ψ ρ, _, a.at, fun b m1 w1 H1 l1 h1 q1 => ?_, h⟩
  cases b with
  | true => exact ⟨w1, ρ, m1, Ψ, N, a.to l1 h1, n.mono l1, q1⟩
  | false => exact ⟨w1, ρ, m1, Ψ, N, a.to l1 h1, n.mono l1, q1⟩
theorem js_set (i : Nat) {x : Str} {pos' : Pos} (hN : X.N.Nodup) (hi : X.N[i]? = some x) (hx : Loc X.env.scope x) (he : JE X E a Wa) (hs : swapsWith a (some (.Name x pos')) pos.line X.env = pure false := by rfl)
    (hf : X.fn x = true ∨ X.env.scope.names.lookup x = some .local := by first | exact .inl rfl | exact .inr rfl | assumption) : JS X E (.Assign [.Name x pos'] a pos) (dSet i Wa) := PS.imp (ps_set hN hi hx he hs hf) fun D σ H ⟨w, ρ, m, Ψ, N, a, n, h⟩ =>
  ⟨w, ρ, m, Ψ ρ, _, a.at, fun d m1 w1 H1 v l1 h1 r1 q1 => n.nx _ m1 w1 H1 _ l1 h1 ((a.s.mono l1).set i r1) q1, h⟩

/-! targets -/
def liftG (K : PySem.W.Frag) (js : List Nat) (G : DG) : TG := fun v σ H Q => ∃ w ρ m d k, HRep K w m H ∧ Slots K w σ ρ ∧ Rep K w d v ∧ (∀ ρ' m' w' H' σ', w.le w' → HRep K w' m' H' → Slots K w' σ' ρ' → wipe σ' js = wipe σ js → k ρ' m' → Q σ' H') ∧ G d ρ m k
theorem PG.imp {e : Expr} {t t' : TG} (h : PG X e t) (i : ∀ v σ H Q, t' v σ H Q → t v σ H Q) : PG X e t' := ⟨fun pins s σ H x v Q I r q => h.run pins s σ H x v Q I r (i x σ H Q q)⟩
theorem wipe_get {σ : L2.St} {js : List Nat} {i : Nat} : (wipe σ js)[i]? = if i ∈ js ∧ i < σ.length then some none else σ[i]? := by
  induction js with
  | nil => simp [wipe]
  | cons j js ih =>
    show ((wipe σ js).set j none)[i]? = _
    by_cases h : j = i
    · subst h
      by_cases hl : j < σ.length
      · rw [List.getElem?_set_self (by rw [wipe_length]; exact hl), if_pos ⟨List.mem_cons_self, hl⟩]
      · rw [List.getElem?_eq_none (by rw [List.length_set, wipe_length]; omega), if_neg (fun z => hl z.2), List.getElem?_eq_none (by omega)]
    · rw [List.getElem?_set_ne h, ih]
      have e : (i ∈ j :: js ∧ i < σ.length) ↔ (i ∈ js ∧ i < σ.length) := by
        constructor
        · rintro ⟨z, q⟩
          rcases List.mem_cons.mp z with z | z
          · exact absurd z.symm h
          · exact ⟨z, q⟩
        · rintro ⟨z, q⟩; exact ⟨List.mem_cons_of_mem _ z, q⟩
      by_cases q : i ∈ js ∧ i < σ.length
      · rw [if_pos q, if_pos (e.mpr q)]
      · rw [if_neg q, if_neg (fun z => q (e.mp z))]
theorem wipe_set {σ : L2.St} {js : List Nat} {i : Nat} {v : Option V} (h : i ∈ js) : wipe (σ.set i v) js = wipe σ js := by
  apply List.ext_getElem?
  intro j
  rw [wipe_get, wipe_get, List.length_set]
  by_cases q : j ∈ js ∧ j < σ.length
  · rw [if_pos q, if_pos q]
  · rw [if_neg q, if_neg q]
    by_cases e : i = j
    · subst e
      have hl : ¬ i < σ.length := fun z => q ⟨h, z⟩
      rw [List.getElem?_eq_none (by rw [List.length_set]; omega), List.getElem?_eq_none (by omega)]
    · rw [List.getElem?_set_ne e]
theorem wipe_wipe {σ : L2.St} {js : List Nat} : wipe (wipe σ js) js = wipe σ js := by
  apply List.ext_getElem?
  intro j
  rw [wipe_get, wipe_get, wipe_length]
  by_cases q : j ∈ js ∧ j < σ.length
  · simp [q]
  · simp [q]
theorem jg_name (i : Nat) {x : Str} {pos : Pos} {js : List Nat} (hj : i ∈ js) (hN : X.N.Nodup) (hi : X.N[i]? = some x) (hx : Loc X.env.scope x) (hf : X.fn x = true ∨ X.env.scope.names.lookup x = some .local := by first | exact .inl rfl | exact .inr rfl | assumption) :
    PG X (.Name x pos) (liftG X.K js (dgName i)) := PG.imp (pg_name hN hi hx hf) fun v σ H Q ⟨w, ρ, m, d, k, h, s, r, n, q⟩ => n _ m w H _ (.refl w) h (s.set i r) (wipe_set hj) q
def gNames : List Nat → TGs
  | [] => gNil
  | i :: is => gCons (gName i) (gNames is)
theorem gNames_ok {K : PySem.W.Frag} {w : Wd} {H : Hp} {js : List Nat} : ∀ (is : List Nat), (∀ i ∈ is, i ∈ js) → ∀ (ds : List D) (vs : List V) (σ : L2.St) (ρ : Env) (Q : L2.St → Hp → Prop), ds.length = is.length → RepAll K w ds vs → Slots K w σ ρ →
    (∀ σ', Slots K w σ' (bindD is ds ρ) → wipe σ' js = wipe σ js → Q σ' H) → gNames is vs σ H Q
  | [], _, [], vs, σ, ρ, Q, _, r, s, q => by
    have e : vs = [] := r
    subst e
    exact ⟨rfl, q σ s rfl⟩
  | i :: is, hj, d :: ds, vs, σ, ρ, Q, hl, r, s, q => by
    obtain ⟨v, r', rfl, rv, rr⟩ := r
    refine ⟨v, r', rfl, ?_⟩
    refine gNames_ok is (fun j h => hj j (List.mem_cons_of_mem _ h)) ds r' _ (ρ.set i (some d)) Q (by simpa using hl) rr (s.set i rv) fun σ' s' e => q σ' s' (e.trans (wipe_set (hj i List.mem_cons_self)))
theorem asT_ok {K : PySem.W.Frag} {w : Wd} {m : MM} {H : Hp} {d : D} {ds : List D} {v : V} (h : HRep K w m H) (e : asT d = some ds) (r : Rep K w d v) : ∃ a xs, v = .ref a ∧ SqT K H a xs ∧ RepAll K w ds xs := by
  cases d with
  | tup es => cases e; obtain ⟨a, xs, e, q, r⟩ := r; exact ⟨a, xs, e, .inl (.inl (h.ext _ _ q)), r⟩
  | rot es => cases e; obtain ⟨a, xs, e, q, r⟩ := r; exact ⟨a, xs, e, sqt_mono h.ext q, r⟩
  | _ => cases e
theorem jg_tup {es : List Expr} {k : Nat} (is : List Nat) {js : List Nat} {pos : Pos} (hc : X.calm = true) (hj : ∀ i ∈ is, i ∈ js) (h : PGs X es (gNames is)) (hn : (assignEach es X.env).length = is.length := by rfl)
    (hst : (assignEach es X.env).findIdx? (·.1) = none := by rfl) : PG X (.Tuple es k pos) (liftG X.K js (dgTup is)) := PG.imp (pg_tup hc h hn hst) fun v σ H Q ⟨w, ρ, m, d, k, h, s, r, n, q⟩ => by
  unfold dgTup at q
  split at q
  · rename_i ds e
    obtain ⟨a, xs, rfl, hq, rr⟩ := asT_ok h e r
    exact ⟨a, xs, rfl, hq, rr.length.trans q.1, gNames_ok is hj ds xs σ ρ _ q.1 rr s fun σ' s' e => n _ m w H σ' (.refl w) h s' e q.2⟩
  · exact q.elim
theorem js_asg {tg : Expr} {g : DG} {js : List Nat} (he : JE X E a Wa) (hg : PG X tg (liftG X.K js g)) (hs : swapsWithSole [tg] a pos.line X.env = pure false := by rfl) (hw : swappedStores [tg] a X.env = pure none := by rfl) (h1 : (assignEach [tg] X.env).map (·.2) = [assign tg X.env] := by rfl) : JS X E (.Assign [tg] a pos) (dAsg Wa g) :=
  PS.imp (ps_asg he hg hs hw h1) fun D σ H ⟨w, ρ, m, Ψ, N, a, n, h⟩ =>
    ⟨w, ρ, m, Ψ ρ, _, a.at, fun d m1 w1 H1 v l1 h1 r1 q1 => ⟨w1, ρ, m1, d, _, h1, a.s.mono l1, r1, fun ρ' m' w' H' σ' l h' s' _ q => n.nx ρ' m' w' H' σ' (l1.trans l) h' s' q, q1⟩, h⟩
theorem js_aug (i : Nat) {x : Str} {op : Operator} {r : R2} {o : DO} {pos' : Pos} (hN : X.N.Nodup) (hi : X.N[i]? = some x) (hx : Loc X.env.scope x) (he : JE X E a Wa) (ho : OpR X (inplaceOp op) r) (hl : OpL X.K r o)
    (hf : X.fn x = true ∨ X.env.scope.names.lookup x = some .local := by first | exact .inl rfl | exact .inr rfl | assumption) : JS X E (.AugAssign (.Name x pos') op a pos) (dAug i o Wa) :=
  PS.imp (ps_aug hN hi hx he (fun pins s σ H x y v u Q I rx ry q => ho pins s σ H x y v u Q I rx ry q) hf) fun D σ H ⟨w, ρ, m, Ψ, N, a, n, h⟩ => by
  unfold dAug at h
  split at h
  · rename_i d e
    obtain ⟨v, e1, r1⟩ := a.s.2 i d e
    refine ⟨v, e1, w, ρ, m, Ψ ρ, _, a.at, fun y m1 w1 H1 u l1 h1 r2 q1 => ?_, h⟩
    exact hl w1 m1 H1 d y v u _ _ h1 (Rep.mono l1 _ _ r1) r2 (fun z m2 w2 H2 zv l2 h2 r3 q2 => n.nx _ m2 w2 H2 _ (l1.trans l2) h2 ((a.s.mono (l1.trans l2)).set i r3) q2) q1
  · exact h.elim

/-! ### loops -/
theorem js_while {c : Expr} (hp : PassesOwn (model X.prog X.w) X.A X.env X.xe) (hc : JT X E c tc) (hb : JSs X E body t) : JS X E (.While c body [] pos) (dWhile tc t) := PS.imp (ps_while hp hc hb) fun D σ H ⟨w, ρ, m, Ψ, N, a, n, h⟩ => by
  obtain ⟨W, ⟨n0, w0⟩, hw⟩ := h
  refine ⟨fun k σ H => ∃ w' ρ m, w.le w' ∧ AtS X.K E w' σ H ρ m Ψ ∧ W k ρ m, ⟨n0, w, ρ, m, .refl w, a, w0⟩, ?_⟩
  rintro k σ1 H1 ⟨w1, ρ1, m1, l1, a1, q1⟩
  refine ⟨w1, ρ1, m1, Ψ ρ1, _, a1.at, fun b m2 w2 H2 l2 h2 q2 => ?_, hw k ρ1 m1 q1⟩
  have a2 := a1.to l2 h2
  cases b with
  | true =>
    show (if true = true then _ else _)
    rw [if_pos rfl]
    refine ⟨fun σ' H' => ∃ k', k' < k ∧ ∃ w' ρ m, w.le w' ∧ AtS X.K E w' σ' H' ρ m Ψ ∧ W k' ρ m, fun σ' H' z => z, w2, ρ1, m2, Ψ, _, a2, ?_, q2⟩
    have n2 := n.mono (l1.trans l2)
    have go : SLift X.K w2 (fun σ' H' => ∃ k', k' < k ∧ ∃ w' ρ m, w.le w' ∧ AtS X.K E w' σ' H' ρ m Ψ ∧ W k' ρ m) (fun ρ' m' => ∃ n', n' < k ∧ W n' ρ' m') := fun ρ' m' w' H' σ' l h' s' ⟨k', lt, q⟩ =>
      ⟨k', lt, w', ρ', m', (l1.trans l2).trans l, ⟨h', s', a2.x.mono l⟩, q⟩
    exact ⟨go, n2.rt, n2.nx, go⟩
  | false =>
    show (if false = true then _ else _)
    rw [if_neg Bool.false_ne_true]
    exact n.nx ρ1 m2 w2 H2 σ1 (l1.trans l2) h2 a2.s q2

/-- an iterator gives just these -/
structure Wlk (K : PySem.W.Frag) (w0 : Wd) (J : It) (ds : List D) : Prop where
  go : ∀ w m H (i : Nat) d, w0.le w → HRep K w m H → ds[i]? = some d → J.go i H
  stop : ∀ w m H, w0.le w → HRep K w m H → J.stop ds.length H
  yld : ∀ w m H (i : Nat) d x H', w0.le w → HRep K w m H → ds[i]? = some d → J.yld i H x H' → ∃ w', w.le w' ∧ HRep K w' m H' ∧ Rep K w' d x
def liftI (K : PySem.W.Frag) (E : WX) (W : DI) : TI := fun σ H R => ∃ w ρ m Ψ Φ, At K E w σ H ρ m Ψ ∧ (∀ ds m' w' H' J, w.le w' → HRep K w' m' H' → Wlk K w' J ds → Φ ds m' → R J H') ∧ W ρ m Φ Ψ
abbrev JI (X : Cx) (E : WX) (tg it : Expr) (W : DI) : Prop := PI X tg it (liftI X.K E W)
theorem PI.imp {tg e : Expr} {t t' : TI} (h : PI X tg e t) (i : ∀ σ H R, t' σ H R → t σ H R) : PI X tg e t' := ⟨fun pins s σ H R I q => h.run pins s σ H R I (i σ H R q)⟩
theorem js_for {tg iter : Expr} {wi : DI} {g : DG} {js : List Nat} (hp : PassesOwn (model X.prog X.w) X.A X.env X.xe) (hc : X.calm = true) (hi : JI X E tg iter wi) (hg : PG X tg (liftG X.K js g)) (hb : JSs X E body t)
    (hs : ∀ x, foldedSetIterable iter X.env x = pure x := by intro _; rfl) : JS X E (.For tg iter body [] pos) (dFor wi g t) := PS.imp (ps_for hp hc hi hg hb hs) fun D σ H ⟨w, ρ, m, Ψ, N, a, n, h⟩ => by
  refine ⟨w, ρ, m, Ψ ρ, _, a.at, fun ds m1 w1 H1 J l1 h1 wk q1 => ?_, h⟩
  refine ⟨fun i k σ H => k = ds.length - i ∧ i ≤ ds.length ∧ ∃ w' ρ m, w1.le w' ∧ AtS X.K E w' σ H ρ m Ψ ∧ forW g t N Ψ (ds.drop i) ρ m, ⟨ds.length, by omega, Nat.zero_le _, w1, ρ, m1, .refl w1, a.to l1 h1, q1⟩, ?_⟩
  rintro i k σ2 H2 ⟨rfl, hi, w2, ρ2, m2, l2, a2, q2⟩
  by_cases hlt : i < ds.length
  · have ed : ds[i]? = some ds[i] := List.getElem?_eq_getElem hlt
    have dr : ds.drop i = ds[i] :: ds.drop (i + 1) := List.drop_eq_getElem_cons hlt
    rw [dr] at q2
    refine .inr ⟨wk.go w2 m2 H2 i _ l2 a2.h ed, fun σ' H' => ∃ w' ρ m, w1.le w' ∧ AtS X.K E w' σ' H' ρ m Ψ ∧ forW g t N Ψ (ds.drop (i + 1)) ρ m, fun σ' H' z => ⟨ds.length - (i + 1), by omega, rfl, hlt, z⟩, fun x H3 y => ?_⟩
    obtain ⟨w3, l3, h3, r3⟩ := wk.yld w2 m2 H2 i _ x H3 l2 a2.h ed y
    refine ⟨w3, ρ2, m2, ds[i], _, h3, a2.s.mono l3, r3, fun ρ' m' w' H' σ' l h' s' _ q => ?_, q2⟩
    have l4 := l2.trans (l3.trans l)
    refine ⟨w', ρ', m', Ψ, _, ⟨h', s', a2.x.mono (l3.trans l)⟩, ?_, q⟩
    have n2 := n.mono (l1.trans l4)
    have go : SLift X.K w' (fun σ' H' => ∃ w' ρ m, w1.le w' ∧ AtS X.K E w' σ' H' ρ m Ψ ∧ forW g t N Ψ (ds.drop (i + 1)) ρ m) (forW g t N Ψ (ds.drop (i + 1))) := fun ρ5 m5 w5 H5 σ5 l5 h5 s5 q5 =>
      ⟨w5, ρ5, m5, l4.trans l5, ⟨h5, s5, a2.x.mono ((l3.trans l).trans l5)⟩, q5⟩
    exact ⟨go, n2.rt, n2.nx, go⟩
  · have e : i = ds.length := by omega
    subst e
    rw [List.drop_length] at q2
    exact .inl ⟨wk.stop w2 m2 H2 l2 a2.h, n.nx ρ2 m2 w2 H2 σ2 (l1.trans l2) a2.h a2.s q2⟩

/-! iterators -/
def moL : Option MO → Option (List D)
  | some (.lst ds) => some ds
  | _ => none
theorem moL_eq {o : Option MO} {ds : List D} (h : moL o = some ds) : o = some (.lst ds) := by
  cases o with
  | none => cases h
  | some o =>
    cases o with
    | lst es => cases h; rfl
    | _ => cases h
def asL (m : MM) : D → Option (List D)
  | .lst ds => some ds
  | .rol ds => some ds
  | .hnd k => moL m.M[k]?
  | _ => none
def asF : D → Option (List D)
  | .lst ds => some ds
  | .rol ds => some ds
  | _ => none
theorem asL_ok {K : PySem.W.Frag} {w : Wd} {m : MM} {H : Hp} {d : D} {ds : List D} {v : V} (h : HRep K w m H) (e : asL m d = some ds) (r : Rep K w d v) : ∃ a xs, v = .ref a ∧ SqL K H a xs ∧ RepAll K w ds xs := by
  cases d with
  | lst es => cases e; obtain ⟨a, xs, e, q, r⟩ := r; exact ⟨a, xs, e, .inl (.inl (h.ext _ _ q)), r⟩
  | rol es => cases e; obtain ⟨a, xs, e, q, r⟩ := r; exact ⟨a, xs, e, sql_mono h.ext q, r⟩
  | hnd k =>
    have q := moL_eq e
    obtain ⟨a, e, q2⟩ := r
    obtain ⟨xs, hx, rr⟩ := h.obj k a _ q2 q
    exact ⟨a, xs, e, .inl (.inl hx), rr⟩
  | _ => cases e
theorem asF_ok {K : PySem.W.Frag} {w : Wd} {d : D} {ds : List D} {v : V} (e : asF d = some ds) (r : Rep K w d v) : ∃ a xs, v = .ref a ∧ SqL K w.F a xs ∧ RepAll K w ds xs := by
  cases d with
  | lst es => cases e; obtain ⟨a, xs, e, q, r⟩ := r; exact ⟨a, xs, e, .inl (.inl q), r⟩
  | rol es => cases e; obtain ⟨a, xs, e, q, r⟩ := r; exact ⟨a, xs, e, q, r⟩
  | _ => cases e
def diList (e : DE) : DI := fun ρ m Φ Ψ => e ρ m (fun d m1 => match asF d with
  | some ds => Φ ds m1
  | none => False) Ψ
theorem wlk_list {K : PySem.W.Frag} {w : Wd} {a : Addr} {xs : List V} {ds : List D} (q : SqL K w.F a xs) (r : RepAll K w ds xs) : Wlk K w (Itl K a) ds where
  go := fun w1 m H i d l h e => by
    obtain ⟨v, e1, _⟩ := r.get e
    exact ⟨xs, v, sql_mono (fun a o z => h.ext a o (l.F a o z)) q, e1⟩
  stop := fun w1 m H l h => ⟨xs, sql_mono (fun a o z => h.ext a o (l.F a o z)) q, Nat.le_of_eq r.length⟩
  yld := fun w1 m H i d x H' l h e y => by
    obtain ⟨rfl, y⟩ := y
    obtain ⟨v, e1, rv⟩ := r.get e
    have z := y xs (sql_mono (fun a o z => h.ext a o (l.F a o z)) q)
    rw [e1] at z; cases z
    exact ⟨w1, .refl w1, h, Rep.mono l _ _ rv⟩
theorem ji_list {tg : Expr} (h : JE X E a Wa) : JI X E tg a (diList Wa) := PI.imp (pi_list h) fun σ H R ⟨w, ρ, m, Ψ, Φ, a, n, h⟩ => by
  refine ⟨w, ρ, m, Ψ, _, a, fun d m1 w1 H1 v l1 h1 r1 q1 => ?_, h⟩
  split at q1
  · rename_i ds e
    obtain ⟨a, xs, rfl, q, r⟩ := asF_ok e r1
    exact ⟨a, rfl, ⟨xs, sql_mono h1.ext q⟩, n ds m1 w1 H1 _ l1 h1 (wlk_list q r) q1⟩
  · exact q1.elim
def rngD (lo : Int) (n : Nat) : List D := (List.range n).map fun i => D.int (lo + (i : Nat))
theorem wlk_range {K : PySem.W.Frag} {w : Wd} {lo : Int} {n : Nat} : Wlk K w (Itr lo n) (rngD lo n) where
  go := fun w1 m H i d l h e => by
    have z := (List.getElem?_eq_some_iff.mp e).1
    show i < n
    simpa [rngD] using z
  stop := fun w1 m H l h => by show n ≤ (rngD lo n).length; simp [rngD]
  yld := fun w1 m H i d x H' l h e y => by
    obtain ⟨rfl, rfl⟩ := y
    have e' : d = D.int (lo + (i : Nat)) := by
      unfold rngD at e
      rw [List.getElem?_map] at e
      cases q : (List.range n)[i]? with
      | none => rw [q] at e; cases e
      | some j =>
        rw [q] at e
        have hj : j = i := by
          have := (List.getElem?_eq_some_iff.mp q).2
          simpa using this.symm
        subst hj
        exact (Option.some.inj e).symm
    subst e'
    exact ⟨w1, .refl w1, h, rfl⟩
def diRng1 (r : DA) : DI := fun ρ m Φ Ψ => r ρ m (fun ds m1 => match ds with
  | [.int j] => (-(2 ^ 62) ≤ j ∧ j < 2 ^ 62) ∧ Φ (rngD 0 j.toNat) m1
  | _ => False) Ψ
def diRng2 (r : DA) : DI := fun ρ m Φ Ψ => r ρ m (fun ds m1 => match ds with
  | [.int i, .int j] => (-(2 ^ 62) ≤ i ∧ i < 2 ^ 62 ∧ -(2 ^ 62) ≤ j ∧ j < 2 ^ 62) ∧ Φ (rngD i (j - i).toNat) m1
  | _ => False) Ψ
theorem rep1 {K : PySem.W.Frag} {w : Wd} {d : D} {vs : List V} (r : RepAll K w [d] vs) : ∃ v, vs = [v] ∧ Rep K w d v := by
  obtain ⟨v, r', rfl, a, b⟩ := r
  have e : r' = [] := b
  subst e; exact ⟨v, rfl, a⟩
theorem rep2 {K : PySem.W.Frag} {w : Wd} {d e : D} {vs : List V} (r : RepAll K w [d, e] vs) : ∃ v u, vs = [v, u] ∧ Rep K w d v ∧ Rep K w e u := by
  obtain ⟨v, r', rfl, a, b⟩ := r
  obtain ⟨u, rfl, c⟩ := rep1 b
  exact ⟨v, u, rfl, a, c⟩
theorem ji_range1 {tg : Expr} {Ws : DA} {p : Pos} (hg : Gl X "range") (hm : X.mg "range" = none) (ha : JA X E [a] Ws) (hs : starEach [a] X.env = [(false, eval a X.env)] := by rfl) : JI X E tg (.Call (.Name "range" p) [a] [] pos) (diRng1 Ws) :=
  PI.imp (pi_range1 hg hm ha hs) fun σ H R ⟨w, ρ, m, Ψ, Φ, a, n, h⟩ => by
  refine ⟨w, ρ, m, Ψ, _, a, fun ds m1 w1 H1 vs l1 h1 r1 q1 => ?_, h⟩
  split at q1
  · obtain ⟨v, rfl, rv⟩ := rep1 r1
    have e : v = .int _ := rv
    subst e
    exact ⟨_, rfl, q1.1.1, q1.1.2, n _ m1 w1 H1 _ l1 h1 wlk_range q1.2⟩
  · exact q1.elim
end
end Dl

namespace Dl
open PySem L2 PyProof.Rows

theorem VLift.int {K : PySem.W.Frag} {w : Wd} {m : MM} {H : Hp} {Q : VK} {Φ : D → MM → Prop} {i : Int} (vl : VLift K w Q Φ) (h : HRep K w m H) (q : Φ (.int i) m) : Q (.int i) H := vl (.int i) m w H _ (.refl w) h rfl q
theorem VLift.bl {K : PySem.W.Frag} {w : Wd} {m : MM} {H : Hp} {Q : VK} {Φ : D → MM → Prop} {i : Bool} (vl : VLift K w Q Φ) (h : HRep K w m H) (q : Φ (.bl i) m) : Q (.bl i) H := vl (.bl i) m w H _ (.refl w) h rfl q
theorem VLift.str {K : PySem.W.Frag} {w : Wd} {m : MM} {H : Hp} {Q : VK} {Φ : D → MM → Prop} {i : Str} (vl : VLift K w Q Φ) (h : HRep K w m H) (q : Φ (.str i) m) : Q (.str i) H := vl (.str i) m w H _ (.refl w) h rfl q
theorem VLift.non {K : PySem.W.Frag} {w : Wd} {m : MM} {H : Hp} {Q : VK} {Φ : D → MM → Prop} (vl : VLift K w Q Φ) (h : HRep K w m H) (q : Φ .non m) : Q .non H := vl .non m w H _ (.refl w) h rfl q
theorem VLift.newL {K : PySem.W.Frag} {w : Wd} {m : MM} {H : Hp} {Q : VK} {Φ : D → MM → Prop} {ds : List D} {xs : List V} {p : Addr} (vl : VLift K w Q Φ) (h : HRep K w m H) (hp : H p = none) (r : RepAll K w ds xs) (q : Φ (.lst ds) m) : Q (.ref p) (upd H p (.lst xs)) :=
  vl _ m _ _ _ (Wd.le_put (h.nof hp)) (h.put hp) (rep_put_lst h hp r) q
theorem VLift.newM {K : PySem.W.Frag} {w : Wd} {m : MM} {H : Hp} {Q : VK} {Φ : D → MM → Prop} {ds : List D} {xs : List V} {p : Addr} (vl : VLift K w Q Φ) (h : HRep K w m H) (hp : H p = none) (r : RepAll K w ds xs) (q : Φ (.hnd m.M.length) (m.push (.lst ds))) : Q (.ref p) (upd H p (.lst xs)) :=
  vl _ _ _ _ _ Wd.le_add (h.add (o := .lst ds) hp ⟨xs, upd_same, RepAll.mono Wd.le_add _ _ r⟩) (rep_add h) q
/-! ### operations -/
def oI (C : Int → Int → Prop) (g : Int → Int → Int) : DO := fun x y m Φ => match x, y with
  | .int i, .int j => C i j ∧ Φ (.int (g i j)) m
  | _, _ => False
def oI0 (g : Int → Int → Int) : DO := fun x y m Φ => match x, y with
  | .int i, .int j => Φ (.int (g i j)) m
  | _, _ => False
def oB0 (g : Int → Int → Bool) : DO := fun x y m Φ => match x, y with
  | .int i, .int j => Φ (.bl (g i j)) m
  | _, _ => False
theorem opl_I {K : PySem.W.Frag} {C C' : Int → Int → Prop} {g : Int → Int → Int} (hC : ∀ i j, C i j → C' i j) : OpL K (rI C' fun i j => .int (g i j)) (oI C g) := fun w m H x y u v Q Φ h r1 r2 vl q => by
  cases x with
  | int i =>
    cases y with
    | int j => exact ⟨i, j, r1, r2, hC _ _ q.1, vl.int h q.2⟩
    | _ => exact False.elim q
  | _ => exact False.elim q
theorem opl_I0 {K : PySem.W.Frag} {g : Int → Int → Int} : OpL K (rI0 fun i j => .int (g i j)) (oI0 g) := fun w m H x y u v Q Φ h r1 r2 vl q => by
  cases x with
  | int i =>
    cases y with
    | int j => exact ⟨i, j, r1, r2, vl.int h q⟩
    | _ => exact False.elim q
  | _ => exact False.elim q
theorem opl_B0 {K : PySem.W.Frag} {g : Int → Int → Bool} : OpL K (rI0 fun i j => .bl (g i j)) (oB0 g) := fun w m H x y u v Q Φ h r1 r2 vl q => by
  cases x with
  | int i =>
    cases y with
    | int j => exact ⟨i, j, r1, r2, vl.bl h q⟩
    | _ => exact False.elim q
  | _ => exact False.elim q
/-- a product: one factor below 2 ^ 64, or both below 2 ^ 400000 -/
def MulC (i j : Int) : Prop := (-(2 ^ 64) < i ∧ i < 2 ^ 64) ∨ (-(2 ^ 64) < j ∧ j < 2 ^ 64) ∨ CMulW i j
theorem op_mulC {X : Cx} : OpR X (binaryOp .Mult) (rI MulC fun i j => .int (i * j)) := fun pins s σ H x y v u Q I rx ry h => by
  obtain ⟨i, j, e1, e2, hc, q⟩ := h
  rcases hc with hc | hc | hc
  · exact op_mul pins s σ H x y v u Q I rx ry ⟨i, j, e1, e2, .inl hc, q⟩
  · exact op_mul pins s σ H x y v u Q I rx ry ⟨i, j, e1, e2, .inr hc, q⟩
  · exact op_mulW pins s σ H x y v u Q I rx ry ⟨i, j, e1, e2, hc, q⟩
def DivC (_ j : Int) : Prop := 0 < j ∧ j < 2 ^ 64
theorem divC_ok {i j : Int} (h : DivC i j) : CDivW i j := wide_div h.1 (b := 64) (by have := h.1; have := h.2; omega) (by decide) (by decide)
def ModC (_ j : Int) : Prop := 0 < j
/-- tracked lists -/
def asK (m : MM) : D → Option (List D)
  | .lst ds => some ds
  | .hnd k => moL m.M[k]?
  | _ => none
theorem asK_ok {K : PySem.W.Frag} {w : Wd} {m : MM} {H : Hp} {d : D} {ds : List D} {v : V} (h : HRep K w m H) (e : asK m d = some ds) (r : Rep K w d v) : ∃ a xs, v = .ref a ∧ H a = some (.lst xs) ∧ RepAll K w ds xs := by
  cases d with
  | lst es => cases e; obtain ⟨a, xs, e, q, r⟩ := r; exact ⟨a, xs, e, h.ext _ _ q, r⟩
  | hnd k =>
    have q := moL_eq e
    obtain ⟨a, e, q2⟩ := r
    obtain ⟨xs, hx, rr⟩ := h.obj k a _ q2 q
    exact ⟨a, xs, e, hx, rr⟩
  | _ => cases e
def rStrA : R2 := fun x y H Q => ∃ i j, x = .str i ∧ y = .str j ∧ i.length + j.length ≤ sizeLine ∧ Q (.str (i ++ j)) H
def rAddAll (K : PySem.W.Frag) : R2 := fun x y H Q => (rI0 fun i j => .int (i + j)) x y H Q ∨ rStrA x y H Q ∨ rCat x y H Q ∨ rCatT K x y H Q
theorem op_addAll {X : Cx} : OpR X (binaryOp .Add) (rAddAll X.K) := op_add.or (op_add_str.or (op_cat.or op_catT))
def oAdd : DO := fun x y m Φ => match x, y with
  | .int i, .int j => Φ (.int (i + j)) m
  | .str i, .str j => i.length + j.length ≤ LIM ∧ Φ (.str (i ++ j)) m
  | .tup xs, .tup ys => xs ≠ [] ∧ ys ≠ [] ∧ xs.length + ys.length ≤ LIM ∧ Φ (.tup (xs ++ ys)) m
  | .lst xs, .lst ys => xs.length + ys.length ≤ LIM ∧ Φ (.lst (xs ++ ys)) m
  | x, y => match asK m x, asK m y with
    | some xs, some ys => xs.length + ys.length ≤ LIM ∧ Φ (.lst (xs ++ ys)) m
    | _, _ => False
theorem cat_ok {K : PySem.W.Frag} {w : Wd} {m : MM} {H : Hp} {x y : D} {xs ys : List D} {u v : V} {Q : VK} {Φ : D → MM → Prop} (h : HRep K w m H) (e1 : asK m x = some xs) (e2 : asK m y = some ys) (r1 : Rep K w x u) (r2 : Rep K w y v) (vl : VLift K w Q Φ)
    (z : xs.length + ys.length ≤ LIM) (q : Φ (.lst (xs ++ ys)) m) : rCat u v H Q := by
  obtain ⟨a, us, rfl, ha, ra⟩ := asK_ok h e1 r1
  obtain ⟨b, vs, rfl, hb, rb⟩ := asK_ok h e2 r2
  refine ⟨a, b, us, vs, rfl, rfl, ha, hb, lim_sz (by rw [ra.length, rb.length]; exact z), fun p hp => ?_⟩
  exact vl _ m _ _ _ (Wd.le_put (h.nof hp)) (h.put hp) (rep_put_lst h hp (ra.append rb)) q
theorem opl_add {K : PySem.W.Frag} : OpL K (rAddAll K) oAdd := fun w m H x y u v Q Φ h r1 r2 vl q => by
  unfold oAdd at q
  split at q
  · exact .inl ⟨_, _, r1, r2, vl.int h q⟩
  · exact .inr (.inl ⟨_, _, r1, r2, lim_sz q.1, vl.str h q.2⟩)
  · obtain ⟨a, us, rfl, ha, ra⟩ := r1
    obtain ⟨b, vs, rfl, hb, rb⟩ := r2
    obtain ⟨q1, q2, q3, q4⟩ := q
    have n1 : us ≠ [] := fun z => by subst z; have := ra.length; exact q1 (List.length_eq_zero_iff.mp this.symm)
    have n2 : vs ≠ [] := fun z => by subst z; have := rb.length; exact q2 (List.length_eq_zero_iff.mp this.symm)
    refine .inr (.inr (.inr ⟨a, b, us, vs, rfl, rfl, .inl (.inl (h.ext _ _ ha)), .inl (.inl (h.ext _ _ hb)), n1, lim_sz (by rw [ra.length, rb.length]; exact q3), fun z => absurd z n2, fun _ p hp => ?_⟩))
    exact vl _ m _ _ _ (Wd.le_put (h.nof hp)) (h.put hp) (rep_put_tup h hp (ra.append rb)) q4
  · exact .inr (.inr (.inl (cat_ok h (x := .lst _) (y := .lst _) rfl rfl r1 r2 vl q.1 q.2)))
  · split at q
    · rename_i e1 e2
      exact .inr (.inr (.inl (cat_ok h e1 e2 r1 r2 vl q.1 q.2)))
    · exact q.elim

/-! equality -/
mutual
def toPy : D → PyData
  | .bl b => .bool b
  | .int i => .int i
  | .str x => .str x
  | .lst ds => .list (toPys ds)
  | .rol ds => .list (toPys ds)
  | .tup ds => .tuple (toPys ds)
  | .rot ds => .tuple (toPys ds)
  | _ => .none
def toPys : List D → List PyData
  | [] => []
  | d :: ds => toPy d :: toPys ds
end
mutual
def okE (n : Nat) : D → Bool
  | .non => true
  | .bl _ => true
  | .int _ => true
  | .str x => PyData.strOk x
  | .lst ds => decide (0 < n) && okEs (n - 1) ds
  | .rol ds => decide (0 < n) && okEs (n - 1) ds
  | .tup ds => decide (0 < n) && okEs (n - 1) ds
  | .rot ds => decide (0 < n) && okEs (n - 1) ds
  | _ => false
def okEs (n : Nat) : List D → Bool
  | [] => true
  | d :: ds => okE n d && okEs n ds
end

section
variable {K : PySem.W.Frag} {w : Wd} {m : MM} {H : Hp}
mutual
theorem dp_of (h : HRep K w m H) : ∀ (d : D) (v : V) (n : Nat), Rep K w d v → okE n d = true → Dp K H v (toPy d)
  | .non, _, _, r, _ => by cases (show _ = V.non from r); exact .non
  | .bl b, _, _, r, _ => by cases (show _ = V.bl b from r); exact .bl b
  | .int i, _, _, r, _ => by cases (show _ = V.int i from r); exact .int i
  | .str x, _, _, r, _ => by cases (show _ = V.str x from r); exact .str x
  | .lst ds, _, n, ⟨a, xs, e, q, r⟩, o => by
    subst e
    have o : (decide (0 < n) && okEs (n - 1) ds) = true := o
    rw [Bool.and_eq_true] at o
    exact .lst (.inl (.inl (h.ext _ _ q))) (dps_of h ds xs (n - 1) r o.2)
  | .rol ds, _, n, ⟨a, xs, e, q, r⟩, o => by
    subst e
    have o : (decide (0 < n) && okEs (n - 1) ds) = true := o
    rw [Bool.and_eq_true] at o
    exact .lst (sql_mono h.ext q) (dps_of h ds xs (n - 1) r o.2)
  | .tup ds, _, n, ⟨a, xs, e, q, r⟩, o => by
    subst e
    have o : (decide (0 < n) && okEs (n - 1) ds) = true := o
    rw [Bool.and_eq_true] at o
    exact .tup (.inl (.inl (h.ext _ _ q))) (dps_of h ds xs (n - 1) r o.2)
  | .rot ds, _, n, ⟨a, xs, e, q, r⟩, o => by
    subst e
    have o : (decide (0 < n) && okEs (n - 1) ds) = true := o
    rw [Bool.and_eq_true] at o
    exact .tup (sqt_mono h.ext q) (dps_of h ds xs (n - 1) r o.2)
  | .ty _, _, _, _, o => nomatch o
  | .cls _, _, _, _, o => nomatch o
  | .hnd _, _, _, _, o => nomatch o
  | .st _, _, _, _, o => nomatch o
  | .exc _ _ _ _, _, _, _, o => nomatch o
theorem dps_of (h : HRep K w m H) : ∀ (ds : List D) (vs : List V) (n : Nat), RepAll K w ds vs → okEs n ds = true → DpAll K H vs (toPys ds)
  | [], _, _, r, _ => by cases (show _ = [] from r); exact .nil
  | d :: ds, _, n, ⟨v, r', e, a, b⟩, o => by
    subst e
    have o : (okE n d && okEs n ds) = true := o
    rw [Bool.and_eq_true] at o
    exact .cons (dp_of h d v n a o.1) (dps_of h ds r' n b o.2)
end
mutual
theorem okE_lay : ∀ (d : D) (n : Nat), okE n d = true → (toPy d).canLay0 = true ∧ (toPy d).depth ≤ n
  | .non, _, _ => ⟨rfl, Nat.zero_le _⟩
  | .bl b, _, _ => ⟨rfl, Nat.zero_le _⟩
  | .int i, _, _ => ⟨rfl, Nat.zero_le _⟩
  | .str x, _, o => ⟨o, Nat.zero_le _⟩
  | .lst ds, n, o => by
    have o : (decide (0 < n) && okEs (n - 1) ds) = true := o
    rw [Bool.and_eq_true] at o
    obtain ⟨h1, h2⟩ := okEs_lay ds (n - 1) o.2
    have h0 := of_decide_eq_true o.1
    exact ⟨h1, by show PyData.depthAll (toPys ds) + 1 ≤ n; omega⟩
  | .rol ds, n, o => by
    have o : (decide (0 < n) && okEs (n - 1) ds) = true := o
    rw [Bool.and_eq_true] at o
    obtain ⟨h1, h2⟩ := okEs_lay ds (n - 1) o.2
    have h0 := of_decide_eq_true o.1
    exact ⟨h1, by show PyData.depthAll (toPys ds) + 1 ≤ n; omega⟩
  | .tup ds, n, o => by
    have o : (decide (0 < n) && okEs (n - 1) ds) = true := o
    rw [Bool.and_eq_true] at o
    obtain ⟨h1, h2⟩ := okEs_lay ds (n - 1) o.2
    have h0 := of_decide_eq_true o.1
    exact ⟨h1, by show PyData.depthAll (toPys ds) + 1 ≤ n; omega⟩
  | .rot ds, n, o => by
    have o : (decide (0 < n) && okEs (n - 1) ds) = true := o
    rw [Bool.and_eq_true] at o
    obtain ⟨h1, h2⟩ := okEs_lay ds (n - 1) o.2
    have h0 := of_decide_eq_true o.1
    exact ⟨h1, by show PyData.depthAll (toPys ds) + 1 ≤ n; omega⟩
  | .ty _, _, o => nomatch o
  | .cls _, _, o => nomatch o
  | .hnd _, _, o => nomatch o
  | .st _, _, o => nomatch o
  | .exc _ _ _ _, _, o => nomatch o
theorem okEs_lay : ∀ (ds : List D) (n : Nat), okEs n ds = true → PyData.canLayAll0 (toPys ds) = true ∧ PyData.depthAll (toPys ds) ≤ n
  | [], _, _ => ⟨rfl, Nat.zero_le _⟩
  | d :: ds, n, o => by
    have o : (okE n d && okEs n ds) = true := o
    rw [Bool.and_eq_true] at o
    obtain ⟨h1, h2⟩ := okE_lay d n o.1
    obtain ⟨h3, h4⟩ := okEs_lay ds n o.2
    refine ⟨?_, ?_⟩
    · show (PyData.canLay0 (toPy d) && PyData.canLayAll0 (toPys ds)) = true
      rw [h1, h3]; rfl
    · show max (PyData.depth (toPy d)) (PyData.depthAll (toPys ds)) ≤ n
      omega
end
theorem okE_shaped {d : D} (o : okE 64 d = true) : SeqAt.shaped (toPy d) = true := by
  obtain ⟨h1, h2⟩ := okE_lay d 64 o
  unfold SeqAt.shaped
  rw [h1, decide_eq_true h2]; rfl
end
/-- == of data -/
def eqD (x y : D) : Bool := PyData.eqv (toPy x) (toPy y)
def oEq : DO := fun x y m Φ => okE 64 x = true ∧ okE 64 y = true ∧ Φ (.bl (eqD x y)) m
def oNe : DO := fun x y m Φ => okE 64 x = true ∧ okE 64 y = true ∧ Φ (.bl (!eqD x y)) m
theorem opl_eq {K : PySem.W.Frag} : OpL K (rEqD K) oEq := fun w m H x y u v Q Φ h r1 r2 vl ⟨o1, o2, q⟩ => ⟨_, _, dp_of h x u 64 r1 o1, dp_of h y v 64 r2 o2, okE_shaped o1, okE_shaped o2, vl.bl h q⟩
theorem opl_ne {K : PySem.W.Frag} : OpL K (rNeD K) oNe := fun w m H x y u v Q Φ h r1 r2 vl ⟨o1, o2, q⟩ => ⟨_, _, dp_of h x u 64 r1 o1, dp_of h y v 64 r2 o2, okE_shaped o1, okE_shaped o2, vl.bl h q⟩
theorem eqD_int {i j : Int} : eqD (.int i) (.int j) = decide (i = j) := by
  show (i == j) = _
  rw [Bool.beq_eq_decide_eq]
theorem eqD_str {i j : Str} : eqD (.str i) (.str j) = decide (i = j) := by
  show (i == j) = _
  rw [Bool.beq_eq_decide_eq]
theorem eqD_bl {i j : Bool} : eqD (.bl i) (.bl j) = decide (i = j) := by
  show (i == j) = _
  rw [Bool.beq_eq_decide_eq]
theorem eqs_ints : ∀ {xs ys : List Int}, PyData.eqvAll (toPys (xs.map D.int)) (toPys (ys.map D.int)) = decide (xs = ys)
  | [], [] => rfl
  | [], y :: ys => by
    show false = _
    simp
  | x :: xs, [] => by
    show false = _
    simp
  | x :: xs, y :: ys => by
    show ((x == y) && PyData.eqvAll (toPys (xs.map D.int)) (toPys (ys.map D.int))) = _
    rw [eqs_ints, Bool.beq_eq_decide_eq]
    simp
theorem eqD_ints {xs ys : List Int} : eqD (.lst (xs.map D.int)) (.lst (ys.map D.int)) = decide (xs = ys) := eqs_ints
theorem okEs_ints {n : Nat} : ∀ {xs : List Int}, okEs n (xs.map D.int) = true
  | [] => rfl
  | x :: xs => by
    show (true && okEs n (xs.map D.int)) = true
    rw [okEs_ints]; rfl
theorem okE_ints {n : Nat} {xs : List Int} : okE (n + 1) (.lst (xs.map D.int)) = true := by
  show (decide (0 < n + 1) && okEs (n + 1 - 1) (xs.map D.int)) = true
  rw [okEs_ints]; simp
/-- is None -/
def isNon : D → Option Bool
  | .non => some true
  | .bl _ => some false
  | .int _ => some false
  | .str _ => some false
  | .lst _ => some false
  | .tup _ => some false
  | .rol _ => some false
  | .rot _ => some false
  | .hnd _ => some false
  | _ => none
def oIsN : DO := fun x y m Φ => match isNon x, y with
  | some b, .non => Φ (.bl b) m
  | _, _ => False
def oNotN : DO := fun x y m Φ => match isNon x, y with
  | some b, .non => Φ (.bl (!b)) m
  | _, _ => False
theorem isNon_ok {K : PySem.W.Frag} {w : Wd} {x : D} {v : V} {b : Bool} (e : isNon x = some b) (r : Rep K w x v) : decide (v = .non) = b := by
  cases x with
  | non => cases e; cases (show v = .non from r); rfl
  | bl c => cases e; cases (show v = .bl c from r); rfl
  | int c => cases e; cases (show v = .int c from r); rfl
  | str c => cases e; cases (show v = .str c from r); rfl
  | lst c => cases e; obtain ⟨a, _, rfl, _⟩ := r; rfl
  | tup c => cases e; obtain ⟨a, _, rfl, _⟩ := r; rfl
  | rol c => cases e; obtain ⟨a, _, rfl, _⟩ := r; rfl
  | rot c => cases e; obtain ⟨a, _, rfl, _⟩ := r; rfl
  | hnd c => cases e; obtain ⟨a, rfl, _⟩ := r; rfl
  | _ => cases e
theorem opl_isN {K : PySem.W.Frag} : OpL K (fun x y H Q => y = .non ∧ Q (.bl (decide (x = .non))) H) oIsN := fun w m H x y u v Q Φ h r1 r2 vl q => by
  unfold oIsN at q
  split at q
  · rename_i b e
    exact ⟨r2, vl.bl h (by rw [isNon_ok e r1]; exact q)⟩
  · exact q.elim
theorem opl_notN {K : PySem.W.Frag} : OpL K (fun x y H Q => y = .non ∧ Q (.bl (!decide (x = .non))) H) oNotN := fun w m H x y u v Q Φ h r1 r2 vl q => by
  unfold oNotN at q
  split at q
  · rename_i b e
    exact ⟨r2, vl.bl h (by rw [isNon_ok e r1]; exact q)⟩
  · exact q.elim
/-! subscripts -/
def oIx : DO := fun x y m Φ => match x, y with
  | .str z, .int i => z.length ≤ LIM ∧ ∃ c, atI z.cps.toList i = some c ∧ Φ (.str ⟨#[c]⟩) m
  | x, .int i => match asL m x with
    | some ds => ∃ d, atI ds i = some d ∧ Φ d m
    | none => match asT x with
      | some ds => ∃ d, atI ds i = some d ∧ Φ d m
      | none => False
  | _, _ => False
theorem atI_rep {K : PySem.W.Frag} {w : Wd} {ds : List D} {vs : List V} {i : Int} {d : D} (r : RepAll K w ds vs) (e : atI ds i = some d) : ∃ v, atI vs i = some v ∧ Rep K w d v := by
  unfold atI at e ⊢
  rw [r.length]
  cases q : ixN ds.length i with
  | none => rw [q] at e; cases e
  | some j => rw [q] at e; exact r.get e
theorem opl_ix {K : PySem.W.Frag} : OpL K (rIx K) oIx := fun w m H x y u v Q Φ h r1 r2 vl q => by
  unfold oIx at q
  split at q
  · obtain ⟨z, c, e, q⟩ := q
    exact .inr (.inr ⟨_, _, c, r1, r2, lim_sz z, e, vl.str h q⟩)
  · split at q
    · rename_i e
      obtain ⟨d, e2, q⟩ := q
      obtain ⟨a, us, rfl, ha, ra⟩ := asL_ok h e r1
      obtain ⟨v', e3, rd⟩ := atI_rep ra e2
      exact .inl ⟨a, us, _, v', rfl, r2, ha, e3, vl d m w H v' (.refl w) h rd q⟩
    · split at q
      · rename_i e
        obtain ⟨d, e2, q⟩ := q
        obtain ⟨a, us, rfl, ha, ra⟩ := asT_ok h e r1
        obtain ⟨v', e3, rd⟩ := atI_rep ra e2
        exact .inr (.inl ⟨a, us, _, v', rfl, r2, ha, e3, vl d m w H v' (.refl w) h rd q⟩)
      · exact q.elim
  · exact q.elim
section
variable {X : Cx} {E : WX} {a b c : Expr} {Wa Wb Wc : DE} {pos : Pos}
theorem je_ix (ha : JE X E a Wa) (hb : JE X E b Wb) (hs : PlainIx b := by exact fun _ _ => rfl) : JE X E (.Subscript a b pos) (dOp oIx Wa Wb) := PE.imp (pe_ix ix_seq ha hb hs) fun _ _ _ h => dOp_ok opl_ix h
/-- xs[lo:hi] -/
abbrev DPt := Env → MM → (Option Int → MM → Prop) → XP → Prop
def liftO (K : PySem.W.Frag) (E : WX) (W : DPt) : TO := fun σ H Q => ∃ w ρ m Ψ Φ, At K E w σ H ρ m Ψ ∧ (∀ o m' w' H', w.le w' → HRep K w' m' H' → Φ o m' → Q o H') ∧ W ρ m Φ Ψ
abbrev JO (X : Cx) (E : WX) (e : Option Expr) (W : DPt) : Prop := PO X e (liftO X.K E W)
theorem PO.imp {e : Option Expr} {t t' : TO} (h : PO X e t) (i : ∀ σ H Q, t' σ H Q → t σ H Q) : PO X e t' := ⟨fun pins s σ H Q I q => h.run pins s σ H Q I (i σ H Q q)⟩
def dpN : DPt := fun _ m Φ _ => Φ none m
def dpS (e : DE) : DPt := fun ρ m Φ Ψ => e ρ m (fun d m1 => match d with
  | .int i => Φ (some i) m1
  | _ => False) Ψ
theorem jo_none : JO X E none dpN := PO.imp po_none fun σ H Q ⟨w, ρ, m, Ψ, Φ, a, n, h⟩ => n none m w H (.refl w) a.h h
theorem jo_some (h : JE X E a Wa) : JO X E (some a) (dpS Wa) := PO.imp (po_some h) fun σ H Q ⟨w, ρ, m, Ψ, Φ, a, n, h⟩ => by
  refine ⟨w, ρ, m, Ψ, _, a, fun d m1 w1 H1 v l1 h1 r1 q1 => ?_, h⟩
  cases d with
  | int i => exact ⟨i, r1, n (some i) m1 w1 H1 l1 h1 q1⟩
  | _ => exact False.elim q1
def cutD (xs : List D) (lo hi : Option Int) : List D := (xs.drop (HT.sIx xs.length 0 lo)).take (HT.sIx xs.length xs.length hi - HT.sIx xs.length 0 lo)
theorem cut_rep {K : PySem.W.Frag} {w : Wd} {ds : List D} {vs : List V} (r : RepAll K w ds vs) (lo hi : Option Int) : RepAll K w (cutD ds lo hi) (cutV vs lo hi) := by
  unfold cutD cutV
  rw [r.length]
  exact (r.drop _).take _
def dSl (a : DE) (lo hi : DPt) : DE := fun ρ m Φ Ψ => a ρ m (fun d m1 => lo ρ m1 (fun l m2 => hi ρ m2 (fun u m3 => match asL m3 d with
  | some ds => Φ (.lst (cutD ds l u)) m3
  | none => False) Ψ) Ψ) Ψ
theorem je_sl {lo hi : Option Expr} {Wl Wh : DPt} {p2 : Pos} (ha : JE X E a Wa) (hl : JO X E lo Wl) (hh : JO X E hi Wh) : JE X E (.Subscript a (.Slice lo hi none p2) pos) (dSl Wa Wl Wh) := PE.imp (pe_slice sl_list ha hl hh) fun σ H Q ⟨w, ρ, m, Ψ, Φ, a, vl, h⟩ => by
  refine ⟨w, ρ, m, Ψ, _, a, fun d m1 w1 H1 v l1 h1 r1 q1 => ?_, h⟩
  refine ⟨w1, ρ, m1, Ψ, _, a.to l1 h1, fun o m2 w2 H2 l2 h2 q2 => ?_, q1⟩
  refine ⟨w2, ρ, m2, Ψ, _, a.to (l1.trans l2) h2, fun u m3 w3 H3 l3 h3 q3 => ?_, q2⟩
  split at q3
  · rename_i ds e
    obtain ⟨a, us, rfl, ha, ra⟩ := asL_ok h3 e (Rep.mono (l2.trans l3) _ _ r1)
    exact ⟨a, us, rfl, ha, fun p hp => (vl.mono (l1.trans (l2.trans l3))).newL h3 hp (cut_rep ra _ _) q3⟩
  · exact q3.elim
end
end Dl

namespace Dl
open PySem L2 PyProof.Rows

/-! ### comprehensions -/
abbrev XF : XP := fun _ _ _ => False
abbrev EF : WX := fun _ _ _ _ => False
def wipeD (ρ : Env) : List Nat → Env
  | [] => ρ
  | v :: vs => (wipeD ρ vs).set v none
theorem Slots.wipes {K : PySem.W.Frag} {w : Wd} {σ : L2.St} {ρ : Env} (h : Slots K w σ ρ) : ∀ vs, Slots K w (L2.wipe σ vs) (wipeD ρ vs)
  | [] => h
  | v :: vs => (Slots.wipes h vs).wipe v
def lcW (g : DG) (tt : DT) (te : DE) (ρ : Env) (Φ : D → MM → Prop) : List D → List D → MM → Prop
  | [], acc, m => Φ (.lst acc) m
  | d :: ds, acc, m => g d ρ (m.push (.lst acc)) fun ρ1 m1 => m1 = m.push (.lst acc) ∧ tt ρ1 (m.push (.lst acc)) (fun b m2 => m2 = m.push (.lst acc) ∧ if b = true then
      te ρ1 (m.push (.lst acc)) (fun y m3 => m3 = m.push (.lst acc) ∧ acc.length < LIM ∧ clD m.M.length y = true ∧ lcW g tt te ρ Φ ds (acc ++ [y]) m) XF
    else lcW g tt te ρ Φ ds acc m) XF
def dLc (it : DI) (g : DG) (tt : DT) (te : DE) (vs : List Nat) : DE := fun ρ m Φ Ψ => it ρ m (fun ds m1 => lcW g tt te (wipeD ρ vs) Φ ds [] m1) Ψ
def dYes : DT := fun _ m Φ _ => Φ true m
theorem xlift_F {K : PySem.W.Frag} {w : Wd} {E : WX} {σ : L2.St} : XLift K w E σ XF := fun _ _ _ _ _ _ _ _ _ _ _ q => q.elim
theorem clAll_app {n : Nat} : ∀ {xs ys : List D}, clAll n xs = true → clAll n ys = true → clAll n (xs ++ ys) = true
  | [], ys, _, h => h
  | x :: xs, ys, h, g => by
    have h : (clD n x && clAll n xs) = true := h
    rw [Bool.and_eq_true] at h
    show (clD n x && clAll n (xs ++ ys)) = true
    rw [h.1, clAll_app h.2 g]; rfl
theorem lc_ok {K : PySem.W.Frag} {E : WX} {wi : DI} {g : DG} {tt : DT} {te : DE} {vs : List Nat} {σ : L2.St} {H : Hp} {Q : VK} (h : lift K E (dLc wi g tt te vs) σ H Q) : tLc (liftI K E wi) (liftG K vs g) (liftT K EF tt) (lift K EF te) vs σ H Q := by
  obtain ⟨w, ρ, m, Ψ, Φ, a, vl, h⟩ := h
  refine ⟨w, ρ, m, Ψ, _, a, fun ds m1 w1 H1 J l1 h1 wk q1 => ?_, h⟩
  intro D hD
  refine ⟨fun i k H => k = ds.length - i ∧ i ≤ ds.length ∧ ∃ w' acc, w1.le w' ∧ HRep K w' (m1.push (.lst acc)) H ∧ w'.th[m1.M.length]? = some D ∧ clAll m1.M.length acc = true ∧ lcW g tt te (wipeD ρ vs) Φ (ds.drop i) acc m1, ⟨ds.length, by omega, Nat.zero_le _, w1.add D, [], Wd.le_add, h1.add hD ⟨[], upd_same, rfl⟩, ?_, rfl, q1⟩, ?_⟩
  · show (w1.th ++ [D])[m1.M.length]? = some D
    rw [← h1.len, List.getElem?_append_right (Nat.le_refl _)]; simp
  rintro i k H2 ⟨rfl, hi, w2, acc, l2, h2, hD2, hcl, q2⟩
  by_cases hlt : i < ds.length
  · have ed : ds[i]? = some ds[i] := List.getElem?_eq_getElem hlt
    have dr : ds.drop i = ds[i] :: ds.drop (i + 1) := List.drop_eq_getElem_cons hlt
    rw [dr] at q2
    refine .inr ⟨wk.go w2 _ H2 i _ l2 h2 ed, fun H' => ∃ w' acc, w1.le w' ∧ HRep K w' (m1.push (.lst acc)) H' ∧ w'.th[m1.M.length]? = some D ∧ clAll m1.M.length acc = true ∧ lcW g tt te (wipeD ρ vs) Φ (ds.drop (i + 1)) acc m1, fun H' z => ⟨ds.length - (i + 1), by omega, rfl, hlt, z⟩, fun x H3 y => ?_⟩
    obtain ⟨w3, l3, h3, r3⟩ := wk.yld w2 _ H2 i _ x H3 l2 h2 ed y
    have s3 : Slots K w3 (wipe σ vs) (wipeD ρ vs) := ((a.s.mono l1).mono (l2.trans l3)).wipes vs
    refine ⟨w3, wipeD ρ vs, _, ds[i], _, h3, s3, r3, fun ρ' m' w' H' σ' l h' s' e q => ⟨e.trans wipe_wipe, ?_⟩, q2⟩
    obtain ⟨rfl, q⟩ := q
    refine ⟨w', ρ', _, XF, _, ⟨h', s', xlift_F⟩, fun b m4 w4 H4 l4 h4 q4 => ?_, q⟩
    obtain ⟨rfl, q4⟩ := q4
    have l24 : w2.le w4 := l3.trans (l.trans l4)
    cases b with
    | true =>
      rw [if_pos rfl] at q4
      show (if true = true then _ else _)
      rw [if_pos rfl]
      refine ⟨w4, ρ', _, XF, _, ⟨h4, s'.mono l4, xlift_F⟩, fun y m5 w5 H5 v l5 h5 r5 q5 => ?_, q4⟩
      obtain ⟨rfl, hz, hy, q5⟩ := q5
      have hD5 : w5.th[m1.M.length]? = some D := l5.th _ _ (l24.th _ _ hD2)
      have hM : (m1.push (.lst acc)).M[m1.M.length]? = some (.lst acc) := by
        show (m1.M ++ [MO.lst acc])[m1.M.length]? = _
        rw [List.getElem?_append_right (Nat.le_refl _)]; simp
      obtain ⟨xs, hx, r⟩ := h5.obj _ D _ hD5 hM
      refine ⟨xs, hx, lim_lt (by rw [r.length]; exact hz), w5, acc ++ [y], l2.trans (l24.trans l5), ?_, hD5, clAll_app hcl (by show (clD _ y && true) = true; rw [hy]; rfl), q5⟩
      have z := h5.wr (ho := .lst (xs ++ [v])) (o' := .lst (acc ++ [y])) hD5 hM (fun z => by cases z) ⟨_, upd_same, r.append ⟨v, [], rfl, r5, rfl⟩⟩
      have e : (m1.push (.lst acc)).M.set m1.M.length (.lst (acc ++ [y])) = (m1.push (.lst (acc ++ [y]))).M := by
        show (m1.M ++ [MO.lst acc]).set m1.M.length (.lst (acc ++ [y])) = m1.M ++ [MO.lst (acc ++ [y])]
        rw [List.set_append_right _ _ (Nat.le_refl _)]; simp
      rw [e] at z
      exact z
    | false =>
      rw [if_neg Bool.false_ne_true] at q4
      show (if false = true then _ else _)
      rw [if_neg Bool.false_ne_true]
      exact ⟨w4, acc, l2.trans l24, h4, l24.th _ _ hD2, hcl, q4⟩
  · have e : i = ds.length := by omega
    subst e
    rw [List.drop_length] at q2
    refine .inl ⟨wk.stop w2 _ H2 l2 h2, ?_⟩
    have hM : (m1.push (.lst acc)).M[m1.M.length]? = some (.lst acc) := by
      show (m1.M ++ [MO.lst acc])[m1.M.length]? = _
      rw [List.getElem?_append_right (Nat.le_refl _)]; simp
    obtain ⟨xs, fD, hx, r, hf⟩ := h2.frz hD2 hM
    have et : ((m1.push (.lst acc)).M.set m1.M.length .dead).take m1.M.length = m1.M := by
      show ((m1.M ++ [MO.lst acc]).set m1.M.length .dead).take m1.M.length = m1.M
      rw [List.set_append_right _ _ (Nat.le_refl _), List.take_left']
      rfl
    have hc := hf.cut (n := m1.M.length) (fun o ho => by
      have ho : o ∈ ((m1.push (.lst acc)).M.set m1.M.length .dead).take m1.M.length := ho
      rw [et] at ho
      exact h1.cls o ho)
    have em : (MM.cut ⟨(m1.push (.lst acc)).M.set m1.M.length .dead, (m1.push (.lst acc)).s⟩ m1.M.length) = m1 := by
      show (⟨((m1.push (.lst acc)).M.set m1.M.length .dead).take m1.M.length, m1.s⟩ : MM) = m1
      rw [et]
    rw [em] at hc
    have lc : w1.le ((w2.put D (.lst xs)).cut m1.M.length) := Wd.le_cut (l2.trans (Wd.le_put fD)) (Nat.le_of_eq h1.len)
    refine vl (.lst acc) m1 _ H2 _ (l1.trans lc) hc ?_ q2
    exact ⟨D, xs, rfl, upd_same, RepAll.cut _ _ (RepAll.mono (Wd.le_put fD) _ _ r) hcl⟩
section
variable {X : Cx} {E : WX} {a b c : Expr} {Wa Wb Wc : DE} {pos : Pos}
theorem jts_nil {K : PySem.W.Frag} : PTs X [] (liftT K E dYes) := ⟨fun pins s σ H Q I ⟨w, ρ, m, Ψ, Φ, a, n, h⟩ => pts_nil.run pins s σ H Q I (n true m w H (.refl w) a.h h)⟩
theorem je_lc {elt tg iter : Expr} {ifs : List Expr} {scope : Scope} {own : List (Str × Nat)} {pos : Pos} {wi : DI} {g : DG} {tt : DT} {te : DE} (hc : X.calm = true) (hN : X.N.Nodup) (hi : JI X E tg iter wi) (ok : BlkOk X.N X.env.scope scope own)
    (hg : ∀ (s : Shared) (H : Hp) (C : Addr) (cl : List (Str × Addr)) (fp : List Addr), PG (X.blk s H scope (compEnvC scope cl C X.env) fp) tg (liftG X.K (own.map (·.2)) g))
    (ht : ∀ (s : Shared) (H : Hp) (C : Addr) (cl : List (Str × Addr)) (fp : List Addr), PTs (X.blk s H scope (compEnvC scope cl C X.env) fp) ifs (liftT X.K EF tt))
    (he : ∀ (s : Shared) (H : Hp) (C : Addr) (cl : List (Str × Addr)) (fp : List Addr), JE (X.blk s H scope (compEnvC scope cl C X.env) fp) EF elt te) (hs : ∀ x, foldedSetIterable iter X.env x = pure x := by intro _; rfl) :
    JE X E (.ListComp elt [⟨tg, iter, ifs, 0⟩] scope pos) (dLc wi g tt te (own.map (·.2))) := PE.imp (pe_lc hc hN hi ok hg ht he hs) fun _ _ _ h => lc_ok h
/-- y = [..] -/
theorem js_setLc (i : Nat) {y : Str} {py : Pos} {elt tg iter : Expr} {ifs : List Expr} {scope : Scope} {own : List (Str × Nat)} {pos spos : Pos} {wi : DI} {g : DG} {tt : DT} {te : DE} (hc : X.calm = true) (hN : X.N.Nodup) (hy : X.N[i]? = some y) (hyl : X.env.scope.names.lookup y = some .local)
    (hsw : swapsWith (.ListComp elt [⟨tg, iter, ifs, 0⟩] scope pos) (some (.Name y py)) spos.line X.env = pure true) (hi : JI X E tg iter wi) (ok : BlkOk X.N X.env.scope scope own)
    (hg : ∀ (s : Shared) (H : Hp) (C : Addr) (cl : List (Str × Addr)) (fp : List Addr), PG (X.blk s H scope (compEnvC scope cl C X.env) fp) tg (liftG X.K (own.map (·.2)) g))
    (ht : ∀ (s : Shared) (H : Hp) (C : Addr) (cl : List (Str × Addr)) (fp : List Addr), PTs (X.blk s H scope (compEnvC scope cl C X.env) fp) ifs (liftT X.K EF tt))
    (he : ∀ (s : Shared) (H : Hp) (C : Addr) (cl : List (Str × Addr)) (fp : List Addr), JE (X.blk s H scope (compEnvC scope cl C X.env) fp) EF elt te) (hs : ∀ x, foldedSetIterable iter X.env x = pure x := by intro _; rfl) :
    JS X E (.Assign [.Name y py] (.ListComp elt [⟨tg, iter, ifs, 0⟩] scope pos) spos) (dSet i (dLc wi g tt te (own.map (·.2)))) := PS.imp (ps_setLc hc hN hy hyl hsw hi ok hg ht he hs) fun D σ H ⟨w, ρ, m, Ψ, N, a, n, h⟩ => by
  refine lc_ok (E := E) ⟨w, ρ, m, Ψ ρ, _, a.at, fun d m1 w1 H1 v l1 h1 r1 q1 => ?_, h⟩
  exact n.nx _ m1 w1 H1 _ l1 h1 ((a.s.mono l1).set i r1) q1

/-! ### calls of built-ins -/
abbrev DCB := List D → MM → (D → MM → Prop) → Prop
def CbL (K : PySem.W.Frag) (r : List V → Hp → VK → Prop) (c : DCB) : Prop := ∀ w m H ds vs Q Φ, HRep K w m H → RepAll K w ds vs → VLift K w Q Φ → c ds m Φ → r vs H Q
def dCB (c : DCB) (r : DA) : DE := fun ρ m Φ Ψ => r ρ m (fun ds m1 => c ds m1 Φ) Ψ
variable {e : Expr} {es : List Expr} {x : Str} {p : Pos} {Ws : DA} {r : List V → Hp → VK → Prop} {cb : DCB}
theorem je_callB {id : String} (hc : CallR X (.builtin id) r) (hl : CbL X.K r cb) (hg : Gl X x) (hm : X.mg x = none) (hv : bootBuiltins x = some (.builtin id)) (ha : JA X E (e :: es) Ws) (hn : x ≠ "__name__" := by decide) (hdb : (x == ("__debug__" : Str)) = false := by decide)
    (he : starEach (e :: es) X.env = (false, eval e X.env) :: starEach es X.env := by rfl) (hpl : (backTo pos (starEach es X.env)).any (·.1) = false := by rfl) : JE X E (.Call (.Name x p) (e :: es) [] pos) (dCB cb Ws) :=
  PE.imp (pe_callB hc hg hm hv ha hn hdb he hpl) fun σ H Q ⟨w, ρ, m, Ψ, Φ, a, vl, h⟩ => ⟨w, ρ, m, Ψ, _, a, fun ds m1 w1 H1 vs l1 h1 r1 q1 => hl w1 m1 H1 ds vs Q Φ h1 r1 (vl.mono l1) q1, h⟩
theorem je_callTy {T : String} (hc : CallR X (.type T) r) (hl : CbL X.K r cb) (hg : Gl X x) (hm : X.mg x = none) (hv : bootBuiltins x = some (.type T)) (ha : JA X E (e :: es) Ws) (hn : x ≠ "__name__" := by decide) (hdb : (x == ("__debug__" : Str)) = false := by decide)
    (he : starEach (e :: es) X.env = (false, eval e X.env) :: starEach es X.env := by rfl) (hpl : (backTo pos (starEach es X.env)).any (·.1) = false := by rfl) : JE X E (.Call (.Name x p) (e :: es) [] pos) (dCB cb Ws) :=
  PE.imp (pe_callTy hc hg hm hv ha hn hdb he hpl) fun σ H Q ⟨w, ρ, m, Ψ, Φ, a, vl, h⟩ => ⟨w, ρ, m, Ψ, _, a, fun ds m1 w1 H1 vs l1 h1 r1 q1 => hl w1 m1 H1 ds vs Q Φ h1 r1 (vl.mono l1) q1, h⟩
end
def cLen : DCB := fun ds m Φ => match ds with
  | [.str z] => z.length ≤ LIM ∧ Φ (.int z.length) m
  | [d] => match asL m d with
    | some xs => Φ (.int xs.length) m
    | none => match asT d with
      | some xs => Φ (.int xs.length) m
      | none => False
  | _ => False
theorem cbl_len {K : PySem.W.Frag} : CbL K (fun xs H Q => ∃ x n, xs = [x] ∧ LenV K x H n ∧ Q (.int n) H) cLen := fun w m H ds vs Q Φ h r vl q => by
  unfold cLen at q
  split at q
  · obtain ⟨v, rfl, rv⟩ := rep1 r
    cases (show v = V.str _ from rv)
    exact ⟨_, _, rfl, ⟨lim_sz q.1, rfl⟩, vl.int h q.2⟩
  · obtain ⟨v, rfl, rv⟩ := rep1 r
    split at q
    · rename_i e
      obtain ⟨a, us, rfl, ha, ra⟩ := asL_ok h e rv
      exact ⟨_, _, rfl, .inl ⟨us, ha, rfl⟩, vl.int h (by rw [ra.length]; exact q)⟩
    · split at q
      · rename_i e
        obtain ⟨a, us, rfl, ha, ra⟩ := asT_ok h e rv
        exact ⟨_, _, rfl, .inr ⟨us, ha, rfl⟩, vl.int h (by rw [ra.length]; exact q)⟩
      · exact q.elim
  · exact q.elim
def cInt : DCB := fun ds m Φ => match ds with
  | [.int i] => Φ (.int i) m
  | [.bl b] => Φ (.int (if b then 1 else 0)) m
  | _ => False
theorem cbl_int {K : PySem.W.Frag} : CbL K (fun xs H Q => (∃ i, xs = [V.int i] ∧ Q (.int i) H) ∨ ∃ k, xs = [V.bl k] ∧ Q (.int (if k then 1 else 0)) H) cInt := fun w m H ds vs Q Φ h r vl q => by
  unfold cInt at q
  split at q
  · obtain ⟨v, rfl, rv⟩ := rep1 r
    cases (show v = V.int _ from rv)
    exact .inl ⟨_, rfl, vl.int h q⟩
  · obtain ⟨v, rfl, rv⟩ := rep1 r
    cases (show v = V.bl _ from rv)
    exact .inr ⟨_, rfl, vl.int h q⟩
  · exact q.elim
def cAbs : DCB := fun ds m Φ => match ds with
  | [.int i] => Φ (.int (if i < 0 then -i else i)) m
  | _ => False
theorem cbl_abs {K : PySem.W.Frag} : CbL K (fun xs H Q => ∃ i, xs = [V.int i] ∧ Q (.int (if i < 0 then -i else i)) H) cAbs := fun w m H ds vs Q Φ h r vl q => by
  unfold cAbs at q
  split at q
  · obtain ⟨v, rfl, rv⟩ := rep1 r
    cases (show v = V.int _ from rv)
    exact ⟨_, rfl, vl.int h q⟩
  · exact q.elim
def intsD : List D → Option (List Int)
  | [] => some []
  | .int i :: r => (intsD r).map (i :: ·)
  | _ => none
theorem ints_ok {K : PySem.W.Frag} {w : Wd} : ∀ {ds : List D} {vs : List V} {ns : List Int}, intsD ds = some ns → RepAll K w ds vs → vs = ns.map V.int
  | [], vs, ns, e, r => by cases e; exact r
  | d :: ds, vs, ns, e, r => by
    obtain ⟨v, r', rfl, rv, rr⟩ := r
    cases d with
    | int i =>
      have e : (intsD ds).map (i :: ·) = some ns := e
      cases q : intsD ds with
      | none => rw [q] at e; cases e
      | some ns' =>
        rw [q] at e; cases e
        cases (show v = V.int i from rv)
        rw [ints_ok q rr]; rfl
    | _ => cases e
theorem ints_map : ∀ (ns : List Int), intsD (ns.map D.int) = some ns
  | [] => rfl
  | n :: ns => by
    show (intsD (ns.map D.int)).map (n :: ·) = _
    rw [ints_map ns]; rfl
def cSum : DCB := fun ds m Φ => match ds with
  | [d] => match asL m d with
    | some xs => ∃ ns, intsD xs = some ns ∧ Φ (.int ns.sum) m
    | none => False
  | _ => False
theorem cbl_sum {K : PySem.W.Frag} : CbL K (rSum K) cSum := fun w m H ds vs Q Φ h r vl q => by
  unfold cSum at q
  split at q
  · obtain ⟨v, rfl, rv⟩ := rep1 r
    split at q
    · rename_i e
      obtain ⟨ns, e2, q⟩ := q
      obtain ⟨a, us, rfl, ha, ra⟩ := asL_ok h e rv
      exact ⟨a, ns, rfl, by rw [← ints_ok e2 ra]; exact ha, vl.int h q⟩
    · exact q.elim
  · exact q.elim
def cMax2 : DCB := fun ds m Φ => match ds with
  | [.int i, .int j] => Φ (.int (if j > i then j else i)) m
  | _ => False
def cMin2 : DCB := fun ds m Φ => match ds with
  | [.int i, .int j] => Φ (.int (if j < i then j else i)) m
  | _ => False
/-- list(x): a new list, frozen or changing -/
def cList : DCB := fun ds m Φ => match ds with
  | [d] => match asL m d with
    | some xs => Φ (.lst xs) m
    | none => match asT d with
      | some xs => Φ (.lst xs) m
      | none => False
  | _ => False
theorem cbl_list {K : PySem.W.Frag} : CbL K (fun xs H Q => ∃ p ys, xs = [V.ref p] ∧ (SqL K H p ys ∨ SqT K H p ys) ∧ ∀ l, H l = none → Q (.ref l) (upd H l (.lst ys))) cList := fun w m H ds vs Q Φ h r vl q => by
  unfold cList at q
  split at q
  · obtain ⟨v, rfl, rv⟩ := rep1 r
    split at q
    · rename_i e
      obtain ⟨a, us, rfl, ha, ra⟩ := asL_ok h e rv
      exact ⟨a, us, rfl, .inl ha, fun l hl => vl.newL h hl ra q⟩
    · split at q
      · rename_i e
        obtain ⟨a, us, rfl, ha, ra⟩ := asT_ok h e rv
        exact ⟨a, us, rfl, .inr ha, fun l hl => vl.newL h hl ra q⟩
      · exact q.elim
  · exact q.elim
end Dl

namespace Dl
open PySem L2 PyProof.Rows

/-! ### isinstance -/
def tyD (m : MM) : D → Option String
  | .non => some "NoneType"
  | .bl _ => some "bool"
  | .int _ => some "int"
  | .str _ => some "str"
  | .lst _ => some "list"
  | .tup _ => some "tuple"
  | .hnd k => (moL m.M[k]?).map fun _ => "list"
  | _ => none
theorem tyD_ok {K : PySem.W.Frag} {w : Wd} {m : MM} {H : Hp} {d : D} {v : V} {T : String} (h : HRep K w m H) (e : tyD m d = some T) (r : Rep K w d v) : TyX K H v (.type T) := by
  cases d with
  | non => cases e; cases (show v = .non from r); exact .base .non
  | bl b => cases e; cases (show v = .bl b from r); exact .base (.bl b)
  | int b => cases e; cases (show v = .int b from r); exact .base (.int b)
  | str b => cases e; cases (show v = .str b from r); exact .base (.str b)
  | lst es => cases e; obtain ⟨a, xs, rfl, q, _⟩ := r; exact .base (.lst (h.ext _ _ q))
  | tup es => cases e; obtain ⟨a, xs, rfl, q, _⟩ := r; exact .base (.tup (h.ext _ _ q))
  | hnd k =>
    obtain ⟨a, rfl, q2⟩ := r
    have e : (moL m.M[k]?).map (fun _ => "list") = some T := e
    cases q : moL m.M[k]? with
    | none => rw [q] at e; cases e
    | some ds =>
      rw [q] at e; cases e
      obtain ⟨xs, hx, _⟩ := h.obj k a _ q2 (moL_eq q)
      exact .base (.lst hx)
  | _ => cases e
def cIsi : DCB := fun ds m Φ => match ds with
  | [x, .ty n] => match (tyD m x).bind fun t => kitB t n with
    | some b => Φ (.bl b) m
    | none => False
  | _ => False
theorem cbl_isi {K : PySem.W.Frag} : CbL K (rIsi K) cIsi := fun w m H ds vs Q Φ h r vl q => by
  unfold cIsi at q
  split at q
  · rename_i x n
    obtain ⟨v, u, rfl, rv, ru⟩ := rep2 r
    cases (show u = V.ty n from ru)
    split at q
    · rename_i b e
      cases e1 : tyD m x with
      | none => rw [e1] at e; cases e
      | some t =>
        rw [e1] at e
        exact ⟨v, .ty n, .type t, .type n, b, rfl, .ty n, tyD_ok h e1 rv, kit_ty e, vl.bl h q⟩
    · exact q.elim
  · exact q.elim
section
variable {X : Cx} {E : WX} {a b c : Expr} {Wa Wb Wc : DE} {pos : Pos} {e : Expr} {es : List Expr} {Ws : DA}
theorem je_ty {x : Str} {n : String} {pos : Pos} (hg : Gl X x) (hm : X.mg x = none) (hv : bootBuiltins x = some (.type n)) (hn : x ≠ "__name__" := by decide) (hd : (x == ("__debug__" : Str)) = false := by decide) : JE X E (.Name x pos) (dC (.ty n)) :=
  je_of (v := .ty n) (pe_bltn hg hm hv rfl hn hd) fun _ => rfl
/-! ### methods of lists -/
def dMethL (c : D → List D → MM → (D → MM → Prop) → Prop) (o : DE) (r : DA) : DE := fun ρ m Φ Ψ => o ρ m (fun x m1 => (asL m1 x).isSome = true ∧ r ρ m1 (fun ds m2 => c x ds m2 Φ) Ψ) Ψ
def MtL (K : PySem.W.Frag) (r : V → List V → Hp → VK → Prop) (c : D → List D → MM → (D → MM → Prop) → Prop) : Prop := ∀ w m H x ds u vs Q Φ, HRep K w m H → Rep K w x u → RepAll K w ds vs → VLift K w Q Φ → c x ds m Φ → r u vs H Q
theorem tyL_ok {K : PySem.W.Frag} {w : Wd} {m : MM} {H : Hp} {d : D} {v : V} (h : HRep K w m H) (e : (asL m d).isSome = true) (r : Rep K w d v) : tyV K "list" v H := by
  obtain ⟨ds, e⟩ := Option.isSome_iff_exists.mp e
  obtain ⟨a, xs, rfl, q, _⟩ := asL_ok h e r
  exact .inl ⟨rfl, xs, q⟩
theorem je_mL {name : Str} {id : String} {r : V → List V → Hp → VK → Prop} {c : D → List D → MM → (D → MM → Prop) → Prop} {apos cpos : Pos} {o : Expr} {Wo : DE} (slot : Slot "list" name id) (hty : typeOf (.builtin id) = pure (.type "method_descriptor")) (hm : MtR X id r) (hl : MtL X.K r c) (ho : JE X E o Wo) (ha : JA X E (e :: es) Ws)
    (hbase : attributeBase o name X.env (eval o X.env) = eval o X.env := by rfl)
    (hfew : ((backTo cpos (starEach (e :: es) X.env)).all (fun x => !x.1) && (backToKw cpos (keywordEach [] X.env)).all (fun x => x.1.isSome)
      && decide ((e :: es).length + ([] : List Keyword).length + (if ([] : List Keyword).isEmpty then 0 else 1) < 30)) = true := by rfl)
    (hline : (apos.endLine == cpos.line) = true := by rfl) (hs : starEach (e :: es) X.env = (false, eval e X.env) :: starEach es X.env := by rfl) (hplain : (backTo cpos (starEach es X.env)).any (·.1) = false := by rfl) :
    JE X E (.Call (.Attribute o name apos) (e :: es) [] cpos) (dMethL c Wo Ws) := PE.imp (pe_bm PySem.F.plainAttrs_list slot hty hm ho ha hbase hfew hline hs hplain) fun σ H Q ⟨w, ρ, m, Ψ, Φ, a, vl, h⟩ => by
  refine ⟨w, ρ, m, Ψ, _, a, fun d m1 w1 H1 v l1 h1 r1 q1 => ?_, h⟩
  refine ⟨tyL_ok h1 q1.1 r1, w1, ρ, m1, Ψ, _, a.to l1 h1, fun ds m2 w2 H2 vs l2 h2 r2 q2 => ?_, q1.2⟩
  exact hl w2 m2 H2 d ds v vs Q Φ h2 (Rep.mono l2 _ _ r1) r2 (vl.mono (l1.trans l2)) q2
end
theorem VLift.wr {K : PySem.W.Frag} {w : Wd} {m : MM} {H : Hp} {Q : VK} {Φ : D → MM → Prop} {k : Nat} {a : Addr} {ds ds' : List D} {xs' : List V} {d : D} {v : V} (vl : VLift K w Q Φ) (h : HRep K w m H) (e : w.th[k]? = some a) (eo : m.M[k]? = some (.lst ds)) (r : RepAll K w ds' xs')
    (rd : Rep K w d v) (q : Φ d ⟨m.M.set k (.lst ds'), m.s⟩) : Q v (upd H a (.lst xs')) :=
  vl d _ w _ v (.refl w) (h.wr (o' := .lst ds') e eo (fun z => by cases z) ⟨xs', upd_same, r⟩) rd q
def oApp : D → List D → MM → (D → MM → Prop) → Prop := fun x ds m Φ => match x, ds with
  | .hnd k, [y] => match moL m.M[k]? with
    | some xs => xs.length < LIM ∧ Φ .non ⟨m.M.set k (.lst (xs ++ [y])), m.s⟩
    | none => False
  | _, _ => False
theorem mtl_app {K : PySem.W.Frag} : MtL K rAppend oApp := fun w m H x ds u vs Q Φ h r rs vl q => by
  unfold oApp at q
  split at q
  · split at q
    · rename_i k y _ xs e
      obtain ⟨a, rfl, q2⟩ := r
      obtain ⟨v, rfl, rv⟩ := rep1 rs
      obtain ⟨us, hx, ru⟩ := h.obj k a _ q2 (moL_eq e)
      exact ⟨a, us, v, rfl, rfl, hx, lim_lt (by rw [ru.length]; exact q.1), vl.wr (ds' := xs ++ [y]) (d := .non) h q2 (moL_eq e) (ru.append ⟨v, [], rfl, rv, rfl⟩) rfl q.2⟩
    · exact q.elim
  · exact q.elim
def oPop : D → List D → MM → (D → MM → Prop) → Prop := fun x ds m Φ => match x, ds with
  | .hnd k, [] => match moL m.M[k]? with
    | some xs => ∃ y, xs[xs.length - 1]? = some y ∧ Φ y ⟨m.M.set k (.lst xs.dropLast), m.s⟩
    | none => False
  | _, _ => False
theorem RepAll.dropLast {K : PySem.W.Frag} {w : Wd} {ds : List D} {vs : List V} (r : RepAll K w ds vs) : RepAll K w ds.dropLast vs.dropLast := by
  rw [List.dropLast_eq_take, List.dropLast_eq_take, r.length]
  exact r.take _
theorem RepAll.eraseIdx {K : PySem.W.Frag} {w : Wd} {ds : List D} {vs : List V} (r : RepAll K w ds vs) (i : Nat) : RepAll K w (ds.eraseIdx i) (vs.eraseIdx i) := by
  rw [List.eraseIdx_eq_take_drop_succ, List.eraseIdx_eq_take_drop_succ]
  exact (r.take i).append (r.drop (i + 1))
def oPopAt : D → List D → MM → (D → MM → Prop) → Prop := fun x ds m Φ => match x, ds with
  | .hnd k, [.int i] => match moL m.M[k]? with
    | some xs => (-(2 ^ 63) ≤ i ∧ i < 2 ^ 63) ∧ ∃ j y, seqIndex? i xs.length = some j ∧ xs[j]? = some y ∧ Φ y ⟨m.M.set k (.lst (xs.eraseIdx j)), m.s⟩
    | none => False
  | _, _ => False
section
variable {X : Cx} {E : WX} {a b c : Expr} {Wa Wb Wc : DE} {pos : Pos} {e : Expr} {es : List Expr} {Ws : DA}
/-- o[i] = e -/
def dSetIx (e o i : DE) : DS := fun N Ψ ρ m => e ρ m (fun v m1 => o ρ m1 (fun x m2 => i ρ m2 (fun j m3 => match x, j with
  | .hnd k, .int j => match moL m3.M[k]? with
    | some xs => ∃ n, ixN xs.length j = some n ∧ N.nx ρ ⟨m3.M.set k (.lst (xs.set n v)), m3.s⟩
    | none => False
  | _, _ => False) (Ψ ρ)) (Ψ ρ)) (Ψ ρ)
theorem js_setIx {o i : Expr} {Wo Wi : DE} {p1 : Pos} (he : JE X E a Wa) (ho : JE X E o Wo) (hi : JE X E i Wi) (h0 : PG X (.Subscript o i p1) (gSub (lift X.K E Wo) (lift X.K E Wi) rSetL))
    (hs : swapsWithSole [.Subscript o i p1] a pos.line X.env = pure false := by rfl) (hw : swappedStores [.Subscript o i p1] a X.env = pure none := by rfl) (h1 : (assignEach [.Subscript o i p1] X.env).map (·.2) = [assign (.Subscript o i p1) X.env] := by rfl) :
    JS X E (.Assign [.Subscript o i p1] a pos) (dSetIx Wa Wo Wi) := PS.imp (ps_asg he h0 hs hw h1) fun D σ H ⟨w, ρ, m, Ψ, N, a, n, h⟩ => by
  refine ⟨w, ρ, m, Ψ ρ, _, a.at, fun d m1 w1 H1 v l1 h1 r1 q1 => ?_, h⟩
  have a1 := a.to l1 h1
  refine ⟨w1, ρ, m1, Ψ ρ, _, a1.at, fun x m2 w2 H2 u l2 h2 r2 q2 => ?_, q1⟩
  refine ⟨w2, ρ, m2, Ψ ρ, _, (a1.to l2 h2).at, fun j m3 w3 H3 y l3 h3 r3 q3 => ?_, q2⟩
  split at q3
  · split at q3
    · rename_i k j _ xs e
      obtain ⟨nn, en, q⟩ := q3
      obtain ⟨b, rfl, q2⟩ := Rep.mono l3 _ _ r2
      cases (show y = V.int j from r3)
      obtain ⟨us, hx, ru⟩ := h3.obj k b _ q2 (moL_eq e)
      refine ⟨b, us, j, nn, rfl, rfl, hx, by rw [ru.length]; exact en, ?_⟩
      have l13 := l1.trans (l2.trans l3)
      exact n.nx ρ _ w3 _ σ l13 (h3.wr (o' := .lst (xs.set nn d)) q2 (moL_eq e) (fun z => by cases z) ⟨_, upd_same, ru.set nn (Rep.mono (l2.trans l3) _ _ r1)⟩) (a.s.mono l13) q
    · exact q3.elim
  · exact q3.elim
end

/-! ### a def by its body -/
theorem slots_start {K : PySem.W.Frag} {w : Wd} {ds : List D} {vs : List V} {N : List Str} (r : RepAll K w ds vs) : Slots K w (L2.start N vs) (ds.map some ++ List.replicate (N.length - ds.length) none) := by
  unfold L2.start
  refine ⟨by simp [r.length], fun i d e => ?_⟩
  have hi : i < ds.length := by
    rcases Nat.lt_or_ge i ds.length with h | h
    · exact h
    · rw [List.getElem?_append_right (by simpa using h), List.getElem?_replicate] at e
      split at e <;> cases e
  rw [List.getElem?_append_left (by simpa using hi), List.getElem?_map] at e
  cases q : ds[i]? with
  | none => rw [q] at e; cases e
  | some d' =>
    rw [q] at e; cases e
    obtain ⟨v, ev, rv⟩ := r.get q
    refine ⟨v, ?_, rv⟩
    rw [List.getElem?_append_left (by simpa [r.length] using hi), List.getElem?_map, ev]; rfl
section
variable {P : Program} {w : World} {K : PySem.W.Frag} {mg : Str → Option Value} {base : Heap}
abbrev wishE (E : XK) : WX := fun cls d _ H => E cls d H
theorem takesD {N : List Str} {qual : Str} {st : Stmt} {f : Addr} {cdv : Value} {A : Around} {outer : List PySem.Env} {s : Shared} {H : Hp} {E : XK} : Takes (cxOf (L2.CX P w) P w K mg base N qual (defScope st) f cdv A outer s H E) (wishE E) := takes_of rfl rfl rfl rfl
theorem passD {N : List Str} {qual : Str} {st : Stmt} {f : Addr} {cdv : Value} {A : Around} {outer : List PySem.Env} {s : Shared} {H : Hp} {E : XK} :
    PassesOwn (model (cxOf (L2.CX P w) P w K mg base N qual (defScope st) f cdv A outer s H E).prog (cxOf (L2.CX P w) P w K mg base N qual (defScope st) f cdv A outer s H E).w) (cxOf (L2.CX P w) P w K mg base N qual (defScope st) f cdv A outer s H E).A
      (cxOf (L2.CX P w) P w K mg base N qual (defScope st) f cdv A outer s H E).env (cxOf (L2.CX P w) P w K mg base N qual (defScope st) f cdv A outer s H E).xe := passes_of rfl
theorem okD {x qual : Str} {st : Stmt} {f : Addr} {fd : FuncData} {N ps : List Str} {k : Nat} {C : DC} {W : DS} (F : Fun K x qual st f fd) (S : FnScope N ps (defScope st))
    (hb : ∀ (cdv : Value) (A : Around) (outer : List PySem.Env) (s : Shared) (H : Hp) (E : XK), Room k (A.deeper (envOfC qual (defScope st) s.heap.objs.size f cdv)) → JSs (cxOf (L2.CX P w) P w K mg base N qual (defScope st) f cdv A outer s H E) (wishE E) (defBody st) W)
    (hC : ∀ ds m Φ Ψ, ds.length = ps.length → C ds m Φ Ψ → W { nx := fun _ m' => Φ .non m', rt := Φ } (fun _ => Ψ) (ds.map some ++ List.replicate (N.length - ds.length) none) m) :
    FnOk P w K mg base (L2.CX P w) (k + 1) f fd ps (spOf K ps.length C) := by
  refine F.okX S (fun vs H Q E h => h.1) fun cdv A outer s H vs Q E hr h => ⟨_, hb cdv A outer s H E hr, ?_⟩
  obtain ⟨hl, w0, ds, m, Φ, Ψ, h0, r, vl, xl, c⟩ := h
  have hd : ds.length = ps.length := r.length.symm.trans hl
  refine ⟨w0, _, m, fun _ => Ψ, _, ⟨h0, slots_start r, fun ρ σ w1 l1 _ C fs m' w' H' d xs l a b c q => xl C fs m' w' H' d xs (l1.trans l) a b c q⟩, ?_, hC ds m Φ Ψ hd c⟩
  exact ⟨fun ρ m' w' H' σ l h' _ q => vl .non m' w' H' _ l h' rfl q, vl, fun _ _ _ _ _ _ _ _ q => q.elim, fun _ _ _ _ _ _ _ _ q => q.elim⟩
end
end Dl

namespace Dl
open PySem L2 PyProof.Rows

abbrev oSub : DO := oI0 fun i j => i - j
abbrev oMul : DO := oI MulC fun i j => i * j
abbrev oDiv : DO := oI DivC fun i j => i / j
abbrev oMod : DO := oI ModC fun i j => i % j
abbrev oLt : DO := oB0 fun i j => decide (i < j)
abbrev oLe : DO := oB0 fun i j => decide (i ≤ j)
abbrev oGt : DO := oB0 fun i j => decide (j < i)
abbrev oGe : DO := oB0 fun i j => decide (j ≤ i)
theorem opl_sub {K : PySem.W.Frag} : OpL K (rI0 fun i j => .int (i - j)) oSub := opl_I0
theorem opl_addI {K : PySem.W.Frag} : OpL K (rI0 fun i j => .int (i + j)) (oI0 fun i j => i + j) := opl_I0
theorem opl_mul {K : PySem.W.Frag} : OpL K (rI MulC fun i j => .int (i * j)) oMul := opl_I fun _ _ h => h
theorem opl_div {K : PySem.W.Frag} : OpL K (rI CDivW fun i j => .int (i / j)) oDiv := opl_I fun _ _ h => divC_ok h
theorem opl_mod {K : PySem.W.Frag} : OpL K (rI (fun _ j => 0 < j) fun i j => .int (i % j)) oMod := opl_I fun _ _ h => h
theorem opl_lt {K : PySem.W.Frag} : OpL K (rI0 fun i j => .bl (decide (i < j))) oLt := opl_B0
theorem opl_le {K : PySem.W.Frag} : OpL K (rI0 fun i j => .bl (decide (i ≤ j))) oLe := opl_B0
theorem opl_gt {K : PySem.W.Frag} : OpL K (rI0 fun i j => .bl (decide (j < i))) oGt := opl_B0
theorem opl_ge {K : PySem.W.Frag} : OpL K (rI0 fun i j => .bl (decide (j ≤ i))) oGe := opl_B0
def oShl : DO := oI CPow fun i j => i * 2 ^ j.toNat
theorem opl_shl {K : PySem.W.Frag} : OpL K (rI CPow fun i j => .int (i * 2 ^ j.toNat)) oShl := opl_I fun _ _ h => h
def oNeg : DO1 := fun x m Φ => match x with
  | .int i => Φ (.int (-i)) m
  | _ => False
theorem unl_neg {K : PySem.W.Frag} : UnL K (rU fun i => .int (-i)) oNeg := fun w m H x u Q Φ h r vl q => by
  cases x with
  | int i => exact ⟨i, r, vl.int h q⟩
  | _ => exact False.elim q
theorem opl_idiv {K : PySem.W.Frag} : OpL K (rI CDiv fun i j => .int (i / j)) (oI CDiv fun i j => i / j) := opl_I fun _ _ h => h

/-- every parameter is given -/
abbrev BA (fd : FuncData) (ps : List Str) : Prop := ∀ us : List Value, us.length = ps.length → bindArgs fd ⟨us, []⟩ = pure (ps.zip us)
/-- a def stands and keeps its worth -/
def Ok (P : Program) (w : World) (K : PySem.W.Frag) (mg : Str → Option Value) (base : Heap) (x : Str) (lv : Nat) (ps : List Str) (C : DC) : Prop :=
  ∃ f fd, mg x = some (.ref f) ∧ PySem.W.keepIn K (.ref f) = true ∧ BA fd ps ∧ FnOk P w K mg base (L2.CX P w) lv f fd ps (spOf K ps.length C)
/-- a def as the top has written it -/
def DefT (K : PySem.W.Frag) (mg : Str → Option Value) (x : Str) (st : Stmt) (ps : List Str) : Prop := ∃ f fd, Fun K x x st f fd ∧ mg x = some (.ref f) ∧ BA fd ps
theorem defT_mk {K : PySem.W.Frag} {h : Heap} {mg : Str → Option Value} {x : Str} {st : Stmt} {ps : List Str} {f : Addr} {od an : Option Addr} {sl : Array (Option Value)} {oc kV dc pm cd ct : Value} (X : K.In h) (G : h.Ns mainGlobals mg)
    (a : PySem.W.nsIn K mainGlobals x = some (some (.ref f))) (l : K.lookup f = some ⟨oc, od, .func (PySem.W.fnOf x x (defArgs st) (defBody st) (defScope st) .none kV dc pm an cd ct), sl⟩) (c : PySem.W.codeIn K cd x = true) (k : PySem.W.keepIn K (.ref f) = true)
    (b : ∀ (kV doc pm : Value) (an : Option Addr) (cdv ct : Value) (us : List Value), us.length = ps.length → bindArgs (PySem.W.fnOf x x (defArgs st) (defBody st) (defScope st) .none kV doc pm an cdv ct) ⟨us, []⟩ = pure (ps.zip us)) : DefT K mg x st ps :=
  ⟨f, _, fun_mk l c k, PySem.W.mg_of X G a, b kV dc pm an cd ct⟩
theorem Ok.mono {P : Program} {w : World} {K : PySem.W.Frag} {mg : Str → Option Value} {base : Heap} {x : Str} {lv lv' : Nat} {ps : List Str} {C : DC} (h : Ok P w K mg base x lv ps C) (l : lv ≤ lv') : Ok P w K mg base x lv' ps C := by
  obtain ⟨f, fd, a, b, c, d⟩ := h
  exact ⟨f, fd, a, b, c, d.mono l⟩
/-- a weaker worth -/
theorem Ok.imp {P : Program} {w : World} {K : PySem.W.Frag} {mg : Str → Option Value} {base : Heap} {x : Str} {lv : Nat} {ps : List Str} {C C' : DC} (h : Ok P w K mg base x lv ps C) (i : ∀ ds m Φ Ψ, C' ds m Φ Ψ → C ds m Φ Ψ) : Ok P w K mg base x lv ps C' := by
  obtain ⟨f, fd, a, b, c, d⟩ := h
  exact ⟨f, fd, a, b, c, d.imp fun vs H Q E ⟨z, w, ds, m, Φ, Ψ, q1, q2, q3, q4, q5⟩ => ⟨z, w, ds, m, Φ, Ψ, q1, q2, q3, q4, i _ _ _ _ q5⟩⟩
section
variable {X : Cx} {E : WX} {pos p : Pos} {e : Expr} {es : List Expr} {Ws : DA} {x : Str} {k : Nat} {ps : List Str} {C : DC}
theorem je_callO (G : Ok X.prog X.w X.K X.mg X.base x k ps C) (tk : Takes X E) (hr : Room k X.A) (hg : Gl X x) (ha : JA X E (e :: es) Ws) (n : Nat) (hn : ps.length = n := by rfl) (hdb : (x == ("__debug__" : Str)) = false := by decide)
    (he : starEach (e :: es) X.env = (false, eval e X.env) :: starEach es X.env := by rfl) (hpl : (backTo pos (starEach es X.env)).any (·.1) = false := by rfl) : JE X E (.Call (.Name x p) (e :: es) [] pos) (dCall n C Ws) := by
  subst hn
  obtain ⟨f, fd, hm, kp, b, F⟩ := G
  exact je_call tk F hr hg hm kp (Binds.all b) ha hdb he hpl
end
/-- the law's own worth -/
def CLaw (C : List Int → MM → (D → MM → Prop) → Prop) : DC := fun ds m Φ _ => ∃ ns, ds = [.rol (ns.map D.int)] ∧ C ns m Φ
def ClawT : List Int → MM → (D → MM → Prop) → Prop := fun ns m Φ => ns.length ≤ 63 ∧ m = ⟨[], 0⟩ ∧ ∀ m', Φ (.bl true) m'
theorem repAll_ints {K : PySem.W.Frag} {w : Wd} : ∀ (ns : List Int), RepAll K w (ns.map D.int) (ns.map V.int)
  | [] => rfl
  | n :: ns => ⟨.int n, _, rfl, rfl, repAll_ints ns⟩
theorem law_sp {K : PySem.W.Frag} {H : Hp} {a : Addr} {ns : List Int} (hl : ns.length ≤ 63) (hS : SqL K H a (ns.map V.int)) : spOf K 1 (CLaw ClawT) [.ref a] H (fun v _ => v = .bl true) fun _ _ _ => False := by
  refine ⟨rfl, ⟨H, [], none⟩, [.rol (ns.map D.int)], ⟨[], 0⟩, fun d _ => d = .bl true, fun _ _ _ => False, ?_, ?_, ?_, ?_, ns, rfl, hl, rfl, fun _ => rfl⟩
  · exact ⟨fun _ _ h => h, rfl, List.nodup_nil, fun k a o e => by simp at e, fun k a o e => by simp at e, (fun _ S e => nomatch e), ⟨fun _ => rfl, fun e => nomatch e⟩⟩
  · exact ⟨_, [], rfl, ⟨a, _, rfl, hS, repAll_ints ns⟩, rfl⟩
  · intro d m' w' H' v l h r q
    subst q
    exact r
  · intro _ _ _ _ _ _ _ _ _ _ _ q
    exact q.elim
theorem cx_false {P : Program} {w : World} {H : Hp} {s : Shared} {e : Value} {s' : Shared} (h : L2.CX P w [] H s (fun _ _ _ => False) e s') : False := by
  obtain ⟨_, _, _, _, _, _, _, _, _, _, _, _, z⟩ := h
  exact z.elim

/-! ### reasoning -/
/-- over the items of a list of anything -/
theorem forW_map {α : Type} {inj : α → D} {g : DG} {body : DS} {N : DN} {Ψ : XS} (I : List α → Env → MM → Prop) (hs : ∀ d r (k : Env → MM → Prop), (∀ ρ m, I r ρ m → k ρ m) → ∀ ρ m, I (d :: r) ρ m → g (inj d) ρ m (fun ρ1 m1 => body { N with nx := k, ct := k, bk := N.nx } Ψ ρ1 m1))
    (hd : ∀ ρ m, I [] ρ m → N.nx ρ m) : ∀ (ds : List α) (ρ : Env) (m : MM), I ds ρ m → forW g body N Ψ (ds.map inj) ρ m
  | [], ρ, m, h => hd ρ m h
  | d :: r, ρ, m, h => hs d r _ (fun ρ m => forW_map I hs hd r ρ m) ρ m h
/-- over a range: I at the number of turns done -/
theorem forW_rng {lo : Int} {n : Nat} {g : DG} {body : DS} {N : DN} {Ψ : XS} (I : Nat → Env → MM → Prop) (hs : ∀ i (k : Env → MM → Prop), i < n → (∀ ρ m, I (i + 1) ρ m → k ρ m) → ∀ ρ m, I i ρ m → g (.int (lo + (i : Nat))) ρ m (fun ρ1 m1 => body { N with nx := k, ct := k, bk := N.nx } Ψ ρ1 m1))
    (hd : ∀ ρ m, I n ρ m → N.nx ρ m) {ρ : Env} {m : MM} (h : I 0 ρ m) : forW g body N Ψ (rngD lo n) ρ m := by
  have key : ∀ (k i : Nat), i + k = n → ∀ ρ m, I i ρ m → forW g body N Ψ ((List.range' i k).map fun (j : Nat) => D.int (lo + (j : Nat))) ρ m := by
    intro k
    induction k with
    | zero =>
      intro i e ρ m h
      have e : i = n := by omega
      subst e
      exact hd ρ m h
    | succ k ih =>
      intro i e ρ m h
      rw [List.range'_succ]
      exact hs i _ (by omega) (fun ρ m h => ih (i + 1) (by omega) ρ m h) ρ m h
  unfold rngD
  rw [List.range_eq_range']
  exact key n 0 (by omega) ρ m h
inductive All2 {α β : Type} (R : α → β → Prop) : List α → List β → Prop where
  | nil : All2 R [] []
  | cons {a b as bs} : R a b → All2 R as bs → All2 R (a :: as) (b :: bs)
theorem All2.length {α β : Type} {R : α → β → Prop} {as : List α} {bs : List β} (h : All2 R as bs) : as.length = bs.length := by
  induction h with
  | nil => rfl
  | cons _ _ ih => rw [List.length_cons, List.length_cons, ih]
/-- a comprehension whose items are some y with R x y -/
theorem lcW_any {α β : Type} {inj : α → D} {out : β → D} {g : DG} {te : DE} {ρ : Env} {Φ : D → MM → Prop} (R : α → β → Prop) (m : MM)
    (hg : ∀ x (m' : MM) (Θ : D → MM → Prop), m'.s = m.s → (∀ y, R x y → Θ (out y) m') → g (inj x) ρ m' (fun ρ1 m1 => m1 = m' ∧ te ρ1 m' Θ XF)) (hc : ∀ y, clD m.M.length (out y) = true) :
    ∀ (xs : List α) (acc : List D), acc.length + xs.length ≤ LIM → (∀ ys, All2 R xs ys → Φ (.lst (acc ++ ys.map out)) m) → lcW g dYes te ρ Φ (xs.map inj) acc m
  | [], acc, _, h => by
    have z := h [] .nil
    rw [List.map_nil, List.append_nil] at z
    exact z
  | x :: xs, acc, hl, h => by
    rw [List.length_cons] at hl
    have z := hg x (m.push (.lst acc)) (fun y m3 => m3 = m.push (.lst acc) ∧ acc.length < LIM ∧ clD m.M.length y = true ∧ lcW g dYes te ρ Φ (xs.map inj) (acc ++ [y]) m) rfl (fun y hy => ⟨rfl, by omega, hc y, lcW_any R m hg hc xs (acc ++ [out y]) (by rw [List.length_append, List.length_singleton]; omega) fun ys hys => by
      have q := h (y :: ys) (.cons hy hys)
      rw [List.map_cons] at q
      rw [List.append_assoc]
      exact q⟩)
    show g (inj x) ρ _ _
    have key : (fun (ρ1 : Env) (m1 : MM) => m1 = m.push (.lst acc) ∧ te ρ1 (m.push (.lst acc)) (fun y m3 => m3 = m.push (.lst acc) ∧ acc.length < LIM ∧ clD m.M.length y = true ∧ lcW g dYes te ρ Φ (xs.map inj) (acc ++ [y]) m) XF)
        = (fun ρ1 m1 => m1 = m.push (.lst acc) ∧ dYes ρ1 (m.push (.lst acc)) (fun b m2 => m2 = m.push (.lst acc) ∧ if b = true then te ρ1 (m.push (.lst acc)) (fun y m3 => m3 = m.push (.lst acc) ∧ acc.length < LIM ∧ clD m.M.length y = true ∧ lcW g dYes te ρ Φ (xs.map inj) (acc ++ [y]) m) XF
          else lcW g dYes te ρ Φ (xs.map inj) acc m) XF) := by
      funext ρ1 m1
      unfold dYes
      simp
    rw [key] at z
    exact z
theorem All2.fn {α β : Type} {f : α → β} : ∀ {as : List α} {bs : List β}, All2 (fun a b => b = f a) as bs → bs = as.map f
  | _, _, .nil => rfl
  | _, _, .cons e h => by rw [e, h.fn]; rfl
/-- a comprehension of a function's values -/
theorem lcW_fn {α β : Type} {inj : α → D} {out : β → D} {g : DG} {te : DE} {ρ : Env} {Φ : D → MM → Prop} (f : α → β) (m : MM) (xs : List α)
    (hg : ∀ x ∈ xs, ∀ (m' : MM) (Θ : D → MM → Prop), Θ (out (f x)) m' → g (inj x) ρ m' (fun ρ1 m1 => m1 = m' ∧ te ρ1 m' Θ XF)) (hc : ∀ y, clD m.M.length (out y) = true) (hl : xs.length ≤ LIM) (h : Φ (.lst ((xs.map f).map out)) m) :
    lcW g dYes te ρ Φ (xs.map inj) [] m := by
  have key : ∀ (ys : List α), (∀ x ∈ ys, x ∈ xs) → ∀ (acc : List D), acc.length + ys.length ≤ LIM → Φ (.lst (acc ++ (ys.map f).map out)) m → lcW g dYes te ρ Φ (ys.map inj) acc m := by
    intro ys
    induction ys with
    | nil => intro _ acc _ h; rw [List.map_nil, List.map_nil, List.append_nil] at h; exact h
    | cons x ys ih =>
      intro hx acc hl h
      rw [List.length_cons] at hl
      have z := hg x (hx x List.mem_cons_self) (m.push (.lst acc)) (fun y m3 => m3 = m.push (.lst acc) ∧ acc.length < LIM ∧ clD m.M.length y = true ∧ lcW g dYes te ρ Φ (ys.map inj) (acc ++ [y]) m) ⟨rfl, by omega, hc _, ih (fun y hy => hx y (List.mem_cons_of_mem _ hy)) (acc ++ [out (f x)]) (by rw [List.length_append, List.length_singleton]; omega) (by
        rw [List.map_cons, List.map_cons] at h
        rw [List.append_assoc]
        exact h)⟩
      have key : (fun (ρ1 : Env) (m1 : MM) => m1 = m.push (.lst acc) ∧ te ρ1 (m.push (.lst acc)) (fun y m3 => m3 = m.push (.lst acc) ∧ acc.length < LIM ∧ clD m.M.length y = true ∧ lcW g dYes te ρ Φ (ys.map inj) (acc ++ [y]) m) XF)
          = (fun ρ1 m1 => m1 = m.push (.lst acc) ∧ dYes ρ1 (m.push (.lst acc)) (fun b m2 => m2 = m.push (.lst acc) ∧ if b = true then te ρ1 (m.push (.lst acc)) (fun y m3 => m3 = m.push (.lst acc) ∧ acc.length < LIM ∧ clD m.M.length y = true ∧ lcW g dYes te ρ Φ (ys.map inj) (acc ++ [y]) m) XF
            else lcW g dYes te ρ Φ (ys.map inj) acc m) XF) := by
        funext ρ1 m1
        unfold dYes
        simp
      rw [key] at z
      exact z
  exact key xs (fun x h => h) [] (by rw [List.length_nil]; omega) (by rw [List.nil_append]; exact h)
theorem rngD0 {n : Nat} : rngD 0 n = (List.range n).map fun i : Nat => D.int (i : Nat) := by
  unfold rngD
  simp only [Int.zero_add]
/-- over range(n) -/
theorem forW_nat {n : Nat} {g : DG} {body : DS} {N : DN} {Ψ : XS} (I : Nat → Env → MM → Prop) (hs : ∀ i (k : Env → MM → Prop), i < n → (∀ ρ m, I (i + 1) ρ m → k ρ m) → ∀ ρ m, I i ρ m → g (.int (i : Nat)) ρ m (fun ρ1 m1 => body { N with nx := k, ct := k, bk := N.nx } Ψ ρ1 m1))
    (hd : ∀ ρ m, I n ρ m → N.nx ρ m) {ρ : Env} {m : MM} (h : I 0 ρ m) : forW g body N Ψ ((List.range n).map fun i : Nat => D.int (i : Nat)) ρ m := by
  rw [← rngD0]
  exact forW_rng I (fun i k hi hk ρ m h => by rw [Int.zero_add]; exact hs i k hi hk ρ m h) hd h
theorem clAll_ints {n : Nat} : ∀ (xs : List Int), clAll n (xs.map D.int) = true
  | [] => rfl
  | x :: xs => by
    show (true && clAll n (xs.map D.int)) = true
    rw [clAll_ints xs]; rfl
theorem bt_len : bootBuiltins "len" = some (.builtin "len") := by decide +kernel
theorem bt_abs : bootBuiltins "abs" = some (.builtin "abs") := by decide +kernel
theorem bt_sum : bootBuiltins "sum" = some (.builtin "sum") := by decide +kernel
theorem bt_max : bootBuiltins "max" = some (.builtin "max") := by decide +kernel
theorem bt_all : bootBuiltins "all" = some (.builtin "all") := by decide +kernel
theorem bt_isinstance : bootBuiltins "isinstance" = some (.builtin "isinstance") := by decide +kernel
theorem bt_int : bootBuiltins "int" = some (.type "int") := by decide +kernel
theorem bt_bool : bootBuiltins "bool" = some (.type "bool") := by decide +kernel
theorem bt_list : bootBuiltins "list" = some (.type "list") := by decide +kernel
theorem bt_tuple : bootBuiltins "tuple" = some (.type "tuple") := by decide +kernel
end Dl

namespace Dl
open PySem L2 PyProof.Rows

/-- the goal that the head leaves, from the law's def -/
theorem walk_D {l : PySem.W.OpenLaw} {k : Nat} {q : Program} {loose : List Str} {XP : (Str → Option Value) → Heap → Prop} {YP : World → Heap → Prop} {d : DefRec} {K : Params → PySem.W.Frag} {x : Str}
    (hn : l.most = some 63) (hdf : d.params.defaults = []) (hr : Room k callerA) (hY : ∀ (w : World) (h : Heap), YP w h → (K w.params).In h)
    (F : ∀ (w : World) (mg : Str → Option Value) (fa : Addr) (h : Heap), (K w.params).In h → h.Ns mainGlobals mg → mg d.name = some (.ref fa) → ∃ fd : FuncData, (∀ (s : Shared) (u : Value), BindsTo s fd ⟨[u], []⟩ [(x, u)]) ∧
      ∀ base : Heap, (K w.params).In base → base.Ns mainGlobals mg → FnOk l.prog w (K w.params) mg base (L2.CX l.prog w) k fa fd [x] (spOf (K w.params) 1 (CLaw ClawT))) :
    PySem.W.WalkO q loose XP YP l.row.toRowW d [] (fun f vs => PySem.call f vs) :=
  L2.walk_of (CX := fun w => L2.CX l.prog w) (sp := fun w => spOf (K w.params) 1 (CLaw ClawT)) hn (by decide) hdf hr hY F (fun _ _ _ _ hl _ hS => law_sp hl hS) fun _ _ _ _ _ h => cx_false h
/-! ### further walks -/
section
variable {X : Cx} {E : WX} {a b c : Expr} {Ws : DA} {pos p tpos : Pos} {elts : List Expr} {kk : Nat}
theorem HRep.newTup {K : PySem.W.Frag} {w : Wd} {m : MM} {H : Hp} {T : Addr} {ds : List D} {xs : List V} (h : HRep K w m H) (hT : H T = none) (r : RepAll K w ds xs) : ∃ w', w.le w' ∧ HRep K w' m (upd H T (.tup xs)) ∧ Rep K w' (.tup ds) (.ref T) :=
  ⟨w.put T (.tup xs), Wd.le_put (h.nof hT), h.put hT, rep_put_tup h hT r⟩
def enumD : Nat → List D → List D
  | _, [] => []
  | i, d :: ds => .tup [.int (i : Nat), d] :: enumD (i + 1) ds
theorem enumD_len : ∀ (ds : List D) (i : Nat), (enumD i ds).length = ds.length
  | [], _ => rfl
  | d :: ds, i => by
    show (enumD (i + 1) ds).length + 1 = ds.length + 1
    rw [enumD_len ds]
theorem enumD_get : ∀ (ds : List D) (i j : Nat) (d : D), (enumD i ds)[j]? = some d → ∃ x, ds[j]? = some x ∧ d = .tup [.int ((i + j : Nat) : Int), x]
  | [], _, _, _, h => by simp [enumD] at h
  | x :: ds, i, 0, d, h => by
    have h : some (D.tup [.int (i : Nat), x]) = some d := h
    cases h
    exact ⟨x, rfl, rfl⟩
  | x :: ds, i, j + 1, d, h => by
    have h : (enumD (i + 1) ds)[j]? = some d := h
    obtain ⟨y, e, rfl⟩ := enumD_get ds (i + 1) j d h
    exact ⟨y, e, by rw [show i + 1 + j = i + (j + 1) by omega]⟩
def diEnumerate (r : DA) : DI := fun ρ m Φ Ψ => r ρ m (fun ds m1 => match ds with
  | [d] => match asF d with
    | some xs => Φ (enumD 0 xs) m1
    | none => False
  | _ => False) Ψ
theorem wlk_enum {K : PySem.W.Frag} {w : Wd} {a : Addr} {xs : List V} {ds : List D} (q : SqL K w.F a xs) (r : RepAll K w ds xs) : Wlk K w (Ite K a) (enumD 0 ds) where
  go := fun w1 m H i d l h e => by
    obtain ⟨y, e9, _⟩ := enumD_get _ _ _ _ e
    obtain ⟨v, e1, _⟩ := r.get e9
    exact ⟨xs, v, sql_mono (fun a o z => h.ext a o (l.F a o z)) q, e1⟩
  stop := fun w1 m H l h => ⟨xs, sql_mono (fun a o z => h.ext a o (l.F a o z)) q, Nat.le_of_eq (by rw [enumD_len]; exact r.length)⟩
  yld := fun w1 m H i d x H' l h e y => by
    obtain ⟨T, y, rfl, hT, rfl, hy⟩ := y
    obtain ⟨z, e9, rfl⟩ := enumD_get _ _ _ _ e
    obtain ⟨v, e1, rv⟩ := r.get e9
    have z2 := hy xs (sql_mono (fun a o z => h.ext a o (l.F a o z)) q)
    rw [e1] at z2; cases z2
    exact h.newTup hT ⟨_, _, rfl, by rw [Nat.zero_add]; rfl, _, _, rfl, Rep.mono l _ _ rv, rfl⟩
theorem ji_enumerate (hg : Gl X "enumerate") (hm : X.mg "enumerate" = none) (ha : JA X E [a] Ws) (hs : starEach [a] X.env = [(false, eval a X.env)] := by rfl) : JI X E (.Tuple elts kk tpos) (.Call (.Name "enumerate" p) [a] [] pos) (diEnumerate Ws) :=
  PI.imp (pi_enum hg hm ha hs) fun σ H R ⟨w, ρ, m, Ψ, Φ, a, n, h⟩ => by
  refine ⟨w, ρ, m, Ψ, _, a, fun ds m1 w1 H1 vs l1 h1 r1 q1 => ?_, h⟩
  split at q1
  · obtain ⟨v, rfl, rv⟩ := rep1 r1
    split at q1
    · rename_i e
      obtain ⟨a, xs, rfl, q, r⟩ := asF_ok e rv
      exact ⟨a, xs, rfl, sql_mono h1.ext q, n _ m1 w1 H1 _ l1 h1 (wlk_enum q r) q1⟩
    · exact q1.elim
  · exact q1.elim
def zipD : List D → List D → List D
  | x :: xs, y :: ys => .tup [x, y] :: zipD xs ys
  | _, _ => []
theorem zipD_get : ∀ (xs ys : List D) (j : Nat) (d : D), (zipD xs ys)[j]? = some d → ∃ x y, xs[j]? = some x ∧ ys[j]? = some y ∧ d = .tup [x, y]
  | [], _, _, _, h => by simp [zipD] at h
  | _ :: _, [], _, _, h => by simp [zipD] at h
  | x :: xs, y :: ys, 0, d, h => by
    have h : some (D.tup [x, y]) = some d := h
    cases h
    exact ⟨x, y, rfl, rfl, rfl⟩
  | x :: xs, y :: ys, j + 1, d, h => zipD_get xs ys j d h
theorem zipD_len : ∀ (xs ys : List D), (zipD xs ys).length = min xs.length ys.length
  | [], _ => by simp [zipD]
  | _ :: _, [] => by simp [zipD]
  | x :: xs, y :: ys => by
    show (zipD xs ys).length + 1 = _
    rw [zipD_len xs ys, List.length_cons, List.length_cons]; omega
def diZip (r : DA) : DI := fun ρ m Φ Ψ => r ρ m (fun ds m1 => match ds with
  | [d, e] => match asF d, asF e with
    | some xs, some ys => Φ (zipD xs ys) m1
    | _, _ => False
  | _ => False) Ψ
theorem wlk_zip {K : PySem.W.Frag} {w : Wd} {a b : Addr} {xs ys : List V} {ds es : List D} (q : SqL K w.F a xs) (r : RepAll K w ds xs) (q2 : SqL K w.F b ys) (r2 : RepAll K w es ys) : Wlk K w (Itz K a b) (zipD ds es) where
  go := fun w1 m H i d l h e => by
    obtain ⟨x, y, e1, e2, _⟩ := zipD_get _ _ _ _ e
    obtain ⟨v, f1, _⟩ := r.get e1
    obtain ⟨u, f2, _⟩ := r2.get e2
    exact ⟨xs, ys, v, u, sql_mono (fun a o z => h.ext a o (l.F a o z)) q, sql_mono (fun a o z => h.ext a o (l.F a o z)) q2, f1, f2⟩
  stop := fun w1 m H l h => ⟨xs, ys, sql_mono (fun a o z => h.ext a o (l.F a o z)) q, sql_mono (fun a o z => h.ext a o (l.F a o z)) q2, by rw [zipD_len, r.length, r2.length]; omega⟩
  yld := fun w1 m H i d x H' l h e y => by
    obtain ⟨T, x1, y1, rfl, hT, rfl, hx, hy⟩ := y
    obtain ⟨x, y, e1, e2, rfl⟩ := zipD_get _ _ _ _ e
    obtain ⟨v, f1, rv⟩ := r.get e1
    obtain ⟨u, f2, ru⟩ := r2.get e2
    have z1 := hx xs (sql_mono (fun a o z => h.ext a o (l.F a o z)) q)
    have z2 := hy ys (sql_mono (fun a o z => h.ext a o (l.F a o z)) q2)
    rw [f1] at z1; cases z1
    rw [f2] at z2; cases z2
    exact h.newTup hT ⟨_, _, rfl, Rep.mono l _ _ rv, _, _, rfl, Rep.mono l _ _ ru, rfl⟩
theorem ji_zip (hg : Gl X "zip") (hm : X.mg "zip" = none) (ha : JA X E [a, b] Ws) (hs : starEach [a, b] X.env = (false, eval a X.env) :: starEach [b] X.env := by rfl) (hpl : (backTo pos (starEach [b] X.env)).any (·.1) = false := by rfl) :
    JI X E (.Tuple elts kk tpos) (.Call (.Name "zip" p) [a, b] [] pos) (diZip Ws) := PI.imp (pi_zip hg hm ha hs hpl) fun σ H R ⟨w, ρ, m, Ψ, Φ, a, n, h⟩ => by
  refine ⟨w, ρ, m, Ψ, _, a, fun ds m1 w1 H1 vs l1 h1 r1 q1 => ?_, h⟩
  split at q1
  · obtain ⟨v, u, rfl, rv, ru⟩ := rep2 r1
    split at q1
    · rename_i e1 e2
      obtain ⟨a, xs, rfl, q, r⟩ := asF_ok e1 rv
      obtain ⟨b, ys, rfl, q2, r2⟩ := asF_ok e2 ru
      exact ⟨a, b, xs, ys, rfl, sql_mono h1.ext q, sql_mono h1.ext q2, n _ m1 w1 H1 _ l1 h1 (wlk_zip q r q2 r2) q1⟩
    · exact q1.elim
  · exact q1.elim
def diReversed (r : DA) : DI := fun ρ m Φ Ψ => r ρ m (fun ds m1 => match ds with
  | [d] => match asF d with
    | some xs => Φ xs.reverse m1
    | none => False
  | _ => False) Ψ
end

/-! ### a comprehension whose list changes later -/
def lcWM (g : DG) (tt : DT) (te : DE) (ρ : Env) (Φ : D → MM → Prop) : List D → List D → MM → Prop
  | [], acc, m => Φ (.hnd m.M.length) (m.push (.lst acc))
  | d :: ds, acc, m => g d ρ (m.push (.lst acc)) fun ρ1 m1 => m1 = m.push (.lst acc) ∧ tt ρ1 (m.push (.lst acc)) (fun b m2 => m2 = m.push (.lst acc) ∧ if b = true then
      te ρ1 (m.push (.lst acc)) (fun y m3 => m3 = m.push (.lst acc) ∧ acc.length < LIM ∧ lcWM g tt te ρ Φ ds (acc ++ [y]) m) XF
    else lcWM g tt te ρ Φ ds acc m) XF
def dLcM (it : DI) (g : DG) (tt : DT) (te : DE) (vs : List Nat) : DE := fun ρ m Φ Ψ => it ρ m (fun ds m1 => lcWM g tt te (wipeD ρ vs) Φ ds [] m1) Ψ
section
variable {X : Cx} {E : WX}
end

/-! ### the drawing state, opened and closed -/
section
variable {K : PySem.W.Frag} {w : Wd} {m : MM} {H : Hp} {p A c : Addr}
theorem HRep.adopt {o : MO} (h : HRep K w m H) (h0 : m.s ≠ 1) (hp : p ∉ w.th) (hF : w.F p = none) (ob : ORep K (w.add p) H p o) : HRep K (w.add p) (m.push o) H where
  ext := h.ext
  len := by show (w.th ++ [p]).length = (m.M ++ [o]).length; rw [List.length_append, List.length_append, h.len]; rfl
  nd := by
    show (w.th ++ [p]).Nodup
    rw [List.nodup_append]
    refine ⟨h.nd, by simp, fun a ha b hb e => ?_⟩
    have e2 : b = p := by simpa using hb
    subst e2; subst e
    exact hp ha
  obj := fun k a o' q1 q2 => by
    have q1 : (w.th ++ [p])[k]? = some a := q1
    have q2 : (m.M ++ [o])[k]? = some o' := q2
    rcases Nat.lt_or_ge k w.th.length with hk | hk
    · rw [List.getElem?_append_left hk] at q1
      rw [List.getElem?_append_left (by rw [← h.len]; exact hk)] at q2
      exact (h.obj k a o' q1 q2).mono Wd.le_add rfl
    · rw [List.getElem?_append_right hk] at q1
      rw [List.getElem?_append_right (by rw [← h.len]; exact hk)] at q2
      have hk2 : k = w.th.length := by
        have z := (List.getElem?_eq_some_iff.mp q1).1
        simp at z; omega
      subst hk2
      rw [Nat.sub_self] at q1
      rw [h.len, Nat.sub_self] at q2
      simp at q1 q2
      subst q1; subst q2
      exact ob
  thF := fun k a o' q1 q2 q3 => by
    have q1 : (w.th ++ [p])[k]? = some a := q1
    have q2 : (m.M ++ [o])[k]? = some o' := q2
    show w.F a = none
    rcases Nat.lt_or_ge k w.th.length with hk | hk
    · rw [List.getElem?_append_left hk] at q1
      rw [List.getElem?_append_left (by rw [← h.len]; exact hk)] at q2
      exact h.thF k a o' q1 q2 q3
    · rw [List.getElem?_append_right hk] at q1
      have z : a ∈ [p] := List.mem_of_getElem? q1
      have e : a = p := by simpa using z
      rw [e]; exact hF
  ls := fun q => absurd q h0
  flag := h.flag
theorem HRep.turn {s : Nat} (h : HRep K w m H) (h1 : s ≠ 1) (h0 : s ≠ 0) : HRep K w ⟨m.M, s⟩ H := ⟨h.ext, h.len, h.nd, h.obj, h.thF, fun q => absurd q h1, ⟨fun q => absurd q h0, fun q => absurd q h1⟩⟩
theorem repAll_intsD {K : PySem.W.Frag} {w : Wd} : ∀ (ns : List Int), RepAll K w (ns.map D.int) (ns.map V.int)
  | [] => rfl
  | n :: ns => ⟨.int n, _, rfl, rfl, repAll_intsD ns⟩
/-- the lists of the drawing state become our own -/
theorem HRep.opened (h : HRep K w m H) (h1 : m.s = 1) (hS : w.S = some ⟨A, c, 0⟩) : ∃ (cells : List Int) (seed : Int),
    HRep K ((w.add c).add A) ⟨m.M ++ [.lst (cells.map D.int)] ++ [.lst [.hnd m.M.length, .int seed]], 2⟩ H ∧ w.le ((w.add c).add A) := by
  obtain ⟨hok, h2⟩ := h.ls h1 _ hS
  obtain ⟨cells, seed, hA, hc⟩ : ∃ (cells : List Int) (seed : Int), H A = some (.lst [.ref c, .int seed]) ∧ H c = some (.lst (cells.map V.int)) := hok
  have fA := h2 A (by show A ∈ [A, c]; simp)
  have fc := h2 c (by show c ∈ [A, c]; simp)
  have ne : A ≠ c := fun z => by
    rw [← z, hA] at hc
    cases cells with
    | nil => cases hc
    | cons x xs => cases hc
  have g1 := (h.turn (s := 2) (by decide) (by decide)).adopt (o := .lst (cells.map D.int)) (by show (2 : Nat) ≠ 1; decide) fc.2.1 fc.1 ⟨_, hc, repAll_intsD cells⟩
  have g2 := g1.adopt (p := A) (o := .lst [.hnd m.M.length, .int seed]) (by show (2 : Nat) ≠ 1; decide) (by show A ∉ w.th ++ [c]; simp only [List.mem_append, List.mem_singleton, not_or]; exact ⟨fA.2.1, ne⟩) fA.1
    ⟨_, hA, .ref c, _, rfl, ⟨c, rfl, Wd.le_add.th _ _ (by show (w.th ++ [c])[m.M.length]? = some c; rw [← h.len, List.getElem?_append_right (Nat.le_refl _)]; simp)⟩, .int seed, [], rfl, rfl, rfl⟩
  exact ⟨cells, seed, g2, Wd.le_add.trans Wd.le_add⟩
/-- .. and are given back -/
theorem HRep.closed {M0 : List MO} {S : LS} (h : HRep K w m H) (hM : m.M.take M0.length = M0) (hS : w.S = some S) (hc : ∀ o ∈ M0, clO M0.length o = true) (hA : ∀ a ∈ S.fp, ∃ j, M0.length ≤ j ∧ w.th[j]? = some a ∧ ∃ o, m.M[j]? = some o ∧ o ≠ .dead) (ok : S.ok H) :
    HRep K (w.cut M0.length) ⟨M0, 1⟩ H := by
  have z := h.cut (n := M0.length) (by rw [hM]; exact hc)
  have e : (m.cut M0.length).M = M0 := hM
  exact {
    ext := z.ext
    len := by have q := z.len; rw [e] at q; exact q
    nd := z.nd
    obj := fun k a o q1 q2 => z.obj k a o q1 (by rw [e]; exact q2)
    thF := fun k a o q1 q2 q3 => z.thF k a o q1 (by rw [e]; exact q2) q3
    ls := fun _ S' q => by
      have q : w.S = some S' := q
      rw [hS] at q; cases q
      refine ⟨ok, fun a ha => ?_⟩
      obtain ⟨j, hj, e1, o, e2, e3⟩ := hA a ha
      refine ⟨h.thF j a o e1 e2 e3, fun hm => ?_, h.thH (List.mem_of_getElem? e1)⟩
      have hm : a ∈ w.th.take M0.length := hm
      obtain ⟨i, hi, ei⟩ := List.mem_iff_getElem.mp hm
      have hi2 := hi
      rw [List.length_take] at hi2
      have e4 : w.th[i]? = some a := by
        have q : (w.th.take M0.length)[i]? = some a := by rw [List.getElem?_eq_getElem hi, ei]
        rw [List.getElem?_take_of_lt (by omega)] at q
        exact q
      obtain ⟨k1, k2⟩ := List.getElem?_eq_some_iff.mp e1
      obtain ⟨j1, j2⟩ := List.getElem?_eq_some_iff.mp e4
      have ij : j = i := (List.getElem_inj h.nd).mp (k2.trans j2.symm)
      omega
    flag := ⟨fun q => (by cases q), fun _ => by show w.S.isSome = true; rw [hS]; rfl⟩ }
end
/-! the two defs of most laws: the state is made; a number is drawn -/
section
variable {P : Program} {w : World} {K : PySem.W.Frag} {mg : Str → Option Value} {base : Heap} {x : Str} {lv : Nat} {ps : List Str}
theorem Ok.impV {C C' : DC} (h : Ok P w K mg base x lv ps C) (i : ∀ vs H Q E, spOf K ps.length C' vs H Q E → spOf K ps.length C vs H Q E) : Ok P w K mg base x lv ps C' := by
  obtain ⟨f, fd, a, b, c, d⟩ := h
  exact ⟨f, fd, a, b, c, d.imp i⟩
end
end Dl

namespace Dl
open PySem L2
theorem moL_lst {ds : List D} : moL (some (.lst ds)) = some ds := rfl
theorem atI_cons0 {α : Type} {a : α} {l : List α} : atI (a :: l) 0 = some a := atI_nat (j := 0) rfl
theorem ixN0 {n : Nat} (h : 0 < n) : ixN n 0 = some 0 := by
  unfold ixN
  rw [if_pos (by decide), if_pos (by omega)]; rfl
local macro_rules | `(tactic| walk_at "dl") => `(tactic| try simp only [dSeq, dSet, dOp, dUn, dVar, dC, dCB, dCons, dNil, dRet, dRetN, dIf, dB, dAnd, dOr, dNot, dDrop, dNext, dMethL, dSetIx, dAndV, dOrV, dNotV, dBlV, dIfE, dLst, dTup, dLstM, dCall, dChain, dAsg, dgName, dgTup, bindD, asT, dFor, diList, diRng1, diRng2, diEnumerate, diZip, diReversed, dLc, dLcM, dYes, wipeD, dAug, dSl, dpN, dpS,
  oI, oI0, oB0, oAdd, oNeg, oEq, oNe, oIx, oIsN, oNotN, isNon, oShl, oApp, oPop, oPopAt, cLen, cInt, cAbs, cSum, cMax2, cMin2, cList, cIsi, tyD, asL, asF, asK, moL_lst, ModC, DivC,
  List.getElem?_cons_zero, List.getElem?_cons_succ, List.set_cons_zero, List.set_cons_succ, List.getElem?_nil, List.length_cons, List.length_nil, List.length_map, Option.map_some, Option.bind_some, Option.isSome_some, if_true, true_and, and_true, MM.push])
theorem mulR {i j : Int} (h0 : 0 ≤ j) (h1 : j ≤ 4294967296) : MulC i j := .inr (.inl ⟨by omega, by omega⟩)
theorem mulL {i j : Int} (h0 : 0 ≤ i) (h1 : i ≤ 4294967296) : MulC i j := .inl ⟨by omega, by omega⟩
/-- an item by an int -/
def gi (xs : List Int) (z : Int) : Int := xs.getD z.toNat 0
theorem ixN_of {n : Nat} {z : Int} (h0 : 0 ≤ z) (h : z < n) : ixN n z = some z.toNat := by
  unfold ixN
  rw [if_pos h0, if_pos h]
theorem atI_gi {xs : List Int} {z : Int} (h0 : 0 ≤ z) (h : z < xs.length) : atI (xs.map D.int) z = some (.int (gi xs z)) := by
  unfold atI
  rw [List.length_map, ixN_of h0 h]
  show (xs.map D.int)[z.toNat]? = _
  have hl : z.toNat < xs.length := by omega
  rw [List.getElem?_map, List.getElem?_eq_getElem hl]
  unfold gi
  rw [List.getD_eq_getElem?_getD, List.getElem?_eq_getElem hl]; rfl
theorem forW_enum {α : Type} {inj : α → D} {g : DG} {body : DS} {N : DN} {Ψ : XS} (I : Nat → List α → Dl.Env → MM → Prop) (hs : ∀ i d r (k : Dl.Env → MM → Prop), (∀ ρ m, I (i + 1) r ρ m → k ρ m) → ∀ ρ m, I i (d :: r) ρ m → g (.tup [.int (i : Nat), inj d]) ρ m (fun ρ1 m1 => body { N with nx := k, ct := k, bk := N.nx } Ψ ρ1 m1))
    (hd : ∀ i ρ m, I i [] ρ m → N.nx ρ m) : ∀ (ds : List α) (i : Nat) (ρ : Dl.Env) (m : MM), I i ds ρ m → forW g body N Ψ (enumD i (ds.map inj)) ρ m
  | [], i, ρ, m, h => hd i ρ m h
  | d :: r, i, ρ, m, h => hs i d r _ (fun ρ m => forW_enum I hs hd r (i + 1) ρ m) ρ m h
end Dl

namespace Dl
/-! ### sums and remainders -/
/-- like mod p -/
def Cg (p a b : Int) : Prop := a % p = b % p
section
variable {p a b c d : Int}
theorem Cg.refl : Cg p a a := rfl
theorem Cg.of_eq (h : a = b) : Cg p a b := by rw [h]; exact .refl
theorem Cg.symm (h : Cg p a b) : Cg p b a := Eq.symm h
theorem Cg.trans (h : Cg p a b) (g : Cg p b c) : Cg p a c := Eq.trans h g
theorem Cg.add (h : Cg p a b) (g : Cg p c d) : Cg p (a + c) (b + d) := by
  unfold Cg at *
  rw [Int.add_emod, h, g, ← Int.add_emod]
theorem Cg.mul (h : Cg p a b) (g : Cg p c d) : Cg p (a * c) (b * d) := by
  unfold Cg at *
  rw [Int.mul_emod, h, g, ← Int.mul_emod]
theorem Cg.neg (h : Cg p a b) : Cg p (-a) (-b) := by
  have z := Cg.mul (Cg.refl (p := p) (a := -1)) h
  rw [← Int.neg_eq_neg_one_mul, ← Int.neg_eq_neg_one_mul] at z
  exact z
theorem Cg.sub (h : Cg p a b) (g : Cg p c d) : Cg p (a - c) (b - d) := by
  rw [Int.sub_eq_add_neg, Int.sub_eq_add_neg]
  exact h.add g.neg
theorem Cg.mod : Cg p (a % p) a := Int.emod_emod_of_dvd _ (Int.dvd_refl _)
end
/-- f 0 + … + f (n-1) -/
def S : Nat → (Nat → Int) → Int
  | 0, _ => 0
  | n + 1, f => S n f + f n
theorem S_cg {p : Int} {f g : Nat → Int} : ∀ (n : Nat), (∀ i < n, Cg p (f i) (g i)) → Cg p (S n f) (S n g)
  | 0, _ => .refl
  | n + 1, h => (S_cg n fun i hi => h i (by omega)).add (h n (by omega))
theorem S_eq {f g : Nat → Int} : ∀ (n : Nat), (∀ i < n, f i = g i) → S n f = S n g
  | 0, _ => rfl
  | n + 1, h => by
    show S n f + f n = S n g + g n
    rw [S_eq n fun i hi => h i (by omega), h n (by omega)]
theorem S_pair {f : Nat → Int} : ∀ (n : Nat), S (2 * n) f = S n fun i => f (2 * i) + f (2 * i + 1)
  | 0 => rfl
  | n + 1 => by
    show S (2 * n) f + f (2 * n) + f (2 * n + 1) = S n _ + (f (2 * n) + f (2 * n + 1))
    rw [S_pair n, Int.add_assoc]
theorem S_head {f : Nat → Int} : ∀ (n : Nat), S (n + 1) f = f 0 + S n fun i => f (i + 1)
  | 0 => by show 0 + f 0 = f 0 + 0; omega
  | n + 1 => by
    show S (n + 1) f + f (n + 1) = f 0 + (S n _ + f (n + 1))
    rw [S_head n, Int.add_assoc]
theorem gi_nat {xs : List Int} {n : Nat} : gi xs (n : Nat) = xs.getD n 0 := by
  unfold gi
  rw [Int.toNat_natCast]
theorem gi_map {α : Type} {xs : List α} {f : α → Int} {n : Nat} (h : n < xs.length) : gi (xs.map f) (n : Nat) = f (xs[n]) := by
  rw [gi_nat, List.getD_eq_getElem?_getD, List.getElem?_map, List.getElem?_eq_getElem h]; rfl
theorem gi_mapI {xs : List Int} {f : Int → Int} {n : Nat} (h : n < xs.length) : gi (xs.map f) (n : Nat) = f (gi xs (n : Nat)) := by
  rw [gi_map h, gi_nat, List.getD_eq_getElem?_getD, List.getElem?_eq_getElem h]; rfl
theorem gi_range {f : Nat → Int} {n k : Nat} (h : n < k) : gi ((List.range k).map f) (n : Nat) = f n := by
  rw [gi_map (by rw [List.length_range]; exact h), List.getElem_range]
/-- how near the corner z lies to the point: the first number is the lowest bit -/
def wt : List Int → Nat → Int
  | [], _ => 1
  | x :: r, z => (if z % 2 = 1 then x else 1 - x) * wt r (z / 2)
end Dl

namespace Dl
open PySem L2 PyProof.Rows
/-! ### repr: asked by the law's own def alone, where no repr is under way -/
/-- small enough to be written out: depth at most n, weight at most k -/
structure OkR (n k : Nat) (d : D) : Prop where
  lay : okE n d = true
  shw : (toPy d).showable = true
  lvs : (toPy d).leavesShort 13 = true
  wgt : (toPy d).weight ≤ k
theorem OkR.int {n k : Nat} {i : Int} (h1 : -1000000000000 < i) (h2 : i < 1000000000000) (hk : 40 ≤ k) : OkR n k (.int i) where
  lay := rfl
  shw := by
    show decide (i.natAbs.log2 < 1920) = true

    by_cases h0 : i.natAbs = 0
    · rw [h0]; decide
    · have z := (Nat.log2_lt h0).mpr (show i.natAbs < 2 ^ 40 by omega)
      exact decide_eq_true (Nat.lt_trans z (by decide))
  lvs := decide_eq_true (PyData.shown_int_le (show i.natAbs < 10 ^ 12 by omega))
  wgt := by
    show (if i == 0 then 0 else i.natAbs.log2 + 1) ≤ k
    split
    · omega
    · have h0 : i.natAbs ≠ 0 := by
        rename_i h
        intro z
        apply h
        have : i = 0 := by omega
        rw [this]; rfl
      have := (Nat.log2_lt h0).mpr (show i.natAbs < 2 ^ 40 by omega)
      omega
theorem OkR.str {n k : Nat} {x : Str} (h : PyData.strOk x = true) (hl : (x.cps.toList.all fun c => decide (c < 16 ^ 8)) = true) (hk : x.cps.size ≤ k) : OkR n k (.str x) := ⟨h, rfl, hl, hk⟩
theorem OkR.bl {n k : Nat} {b : Bool} : OkR n k (.bl b) := ⟨rfl, rfl, rfl, Nat.zero_le _⟩
theorem OkR.non {n k : Nat} : OkR n k .non := ⟨rfl, rfl, rfl, Nat.zero_le _⟩
theorem okRs {n k : Nat} : ∀ {ds : List D}, (∀ d ∈ ds, OkR n k d) → okEs n ds = true ∧ PyData.showableAll (toPys ds) = true ∧ PyData.leavesShortAll 13 (toPys ds) = true ∧ PyData.weightAll (toPys ds) ≤ ds.length * (k + 1)
  | [], _ => ⟨rfl, rfl, rfl, by simp [toPys, PyData.weightAll]⟩
  | d :: ds, h => by
    obtain ⟨a, b, c, e⟩ := h d List.mem_cons_self
    obtain ⟨a2, b2, c2, e2⟩ := okRs fun x hx => h x (List.mem_cons_of_mem _ hx)
    refine ⟨?_, ?_, ?_, ?_⟩
    · show (okE n d && okEs n ds) = true
      rw [a, a2]; rfl
    · show (PyData.showable (toPy d) && PyData.showableAll (toPys ds)) = true
      rw [b, b2]; rfl
    · show (PyData.leavesShort 13 (toPy d) && PyData.leavesShortAll 13 (toPys ds)) = true
      rw [c, c2]; rfl
    · show PyData.weight (toPy d) + 1 + PyData.weightAll (toPys ds) ≤ (ds.length + 1) * (k + 1)
      rw [Nat.add_mul, Nat.one_mul]
      omega
theorem OkR.lst {n k j : Nat} {ds : List D} (h : ∀ d ∈ ds, OkR n k d) (hj : ds.length * (k + 1) ≤ j) : OkR (n + 1) j (.lst ds) := by
  obtain ⟨a, b, c, e⟩ := okRs h
  exact ⟨by show (decide (0 < n + 1) && okEs n ds) = true; rw [a]; simp, b, c, Nat.le_trans e hj⟩
theorem OkR.tup {n k j : Nat} {ds : List D} (h : ∀ d ∈ ds, OkR n k d) (hj : ds.length * (k + 1) ≤ j) : OkR (n + 1) j (.tup ds) := by
  obtain ⟨a, b, c, e⟩ := okRs h
  exact ⟨by show (decide (0 < n + 1) && okEs n ds) = true; rw [a]; simp, b, c, Nat.le_trans e hj⟩
/-! ### the law's own call, the surroundings known -/
section
variable {P : Program} {w : World} {K : PySem.W.Frag} {mg : Str → Option Value} {base : Heap}
end
/-! ### odds and ends -/
/-- a comprehension's scope within another one -/
theorem blkOk_in {X : Cx} {N : List Str} {s : Shared} {H : Hp} {sc scope scope2 : Scope} {C : Addr} {cl : List (Str × Addr)} {fp : List Addr} {own : List (Str × Nat)} (hN : X.N = N) (hs : X.env.scope = sc) (h : BlkOk N (relS scope sc) scope2 own) :
    BlkOk (X.blk s H scope (compEnvC scope cl C X.env) fp).N (X.blk s H scope (compEnvC scope cl C X.env) fp).env.scope scope2 own := by
  subst hN; subst hs
  exact h
theorem room_un {k : Nat} {A : Around} (r : Room k A) : A.units + 100 < cLine := by have := r.un; omega
/-- one statement at a time: what follows is held back -/
theorem dSeq_k {a b : DS} {N : DN} {Ψ : XS} {ρ : Dl.Env} {m : MM} (h : ∀ k : Dl.Env → MM → Prop, k = b N Ψ → a { N with nx := k } Ψ ρ m) : dSeq a b N Ψ ρ m := h _ rfl
end Dl

namespace Dl
/-! ### primes -/
structure Prim (p : Int) : Prop where
  two : 2 ≤ p
  euc : ∀ a b : Int, p ∣ a * b → p ∣ a ∨ p ∣ b
/-- no number from lo to lo + 2^k - 1 whose square is at most p divides p -/
def noDiv (p : Nat) : Nat → Nat → Bool
  | lo, 0 => (p % lo != 0) || decide (p < lo * lo)
  | lo, k + 1 => noDiv p lo k && noDiv p (lo + 2 ^ k) k
theorem noDiv_ok {p : Nat} : ∀ (k lo : Nat), noDiv p lo k = true → ∀ d, lo ≤ d → d < lo + 2 ^ k → d * d ≤ p → ¬ d ∣ p
  | 0, lo, h, d, h1, h2, h3 => by
    intro h4
    have e : d = lo := by omega
    subst e
    unfold noDiv at h
    have : p % d = 0 := Nat.mod_eq_zero_of_dvd h4
    simp only [this, bne_self_eq_false, Bool.false_or, decide_eq_true_eq] at h
    omega
  | k + 1, lo, h, d, h1, h2, h3 => by
    have h : (noDiv p lo k && noDiv p (lo + 2 ^ k) k) = true := h
    rw [Bool.and_eq_true] at h
    rw [Nat.pow_succ] at h2
    by_cases hd : d < lo + 2 ^ k
    · exact noDiv_ok k lo h.1 d h1 hd h3
    · exact noDiv_ok k (lo + 2 ^ k) h.2 d (by omega) (by omega) h3
theorem prime_nat {p k : Nat} (hp : 2 ≤ p) (hp2 : p < (2 + 2 ^ k) * (2 + 2 ^ k)) (h : noDiv p 2 k = true) : ∀ d, d ∣ p → d = 1 ∨ d = p := by
  intro d hd
  have h0 : 0 < d := Nat.pos_of_dvd_of_pos hd (by omega)
  obtain ⟨e, he⟩ := hd
  by_cases h1 : d = 1
  · exact .inl h1
  by_cases h2 : e = 1
  · exact .inr (by rw [he, h2, Nat.mul_one])
  have e0 : 0 < e := by
    rcases Nat.eq_zero_or_pos e with z | z
    · rw [z, Nat.mul_zero] at he; omega
    · exact z
  have small : ∀ x y : Nat, 2 ≤ x → x ≤ y → p = x * y → False := fun x y hx hxy hxe => by
    have hs : x * x ≤ p := by rw [hxe]; exact Nat.mul_le_mul_left _ hxy
    have hlt : x < 2 + 2 ^ k := by
      rcases Nat.lt_or_ge x (2 + 2 ^ k) with z | z
      · exact z
      · have := Nat.mul_le_mul z z
        omega
    exact noDiv_ok k 2 h x hx hlt hs ⟨y, hxe⟩
  rcases Nat.le_total d e with z | z
  · exact (small d e (by omega) z he).elim
  · exact (small e d (by omega) z (by rw [he, Nat.mul_comm])).elim
theorem prim_of {p : Nat} (hp : 2 ≤ p) (h : ∀ d, d ∣ p → d = 1 ∨ d = p) : Prim (p : Int) := by
  refine ⟨by omega, fun a b hab => ?_⟩
  have hn : p ∣ a.natAbs * b.natAbs := by
    have z := Int.natAbs_dvd_natAbs.mpr hab
    rw [Int.natAbs_mul] at z
    exact z
  rcases h _ (Nat.gcd_dvd_left p a.natAbs) with z | z
  · exact .inr (Int.natAbs_dvd_natAbs.mp (Nat.Coprime.dvd_of_dvd_mul_left z hn))
  · refine .inl (Int.natAbs_dvd_natAbs.mp ?_)
    have g := Nat.gcd_dvd_right p a.natAbs
    rw [z] at g
    exact g
theorem prim_chk {p k : Nat} (h : (decide (2 ≤ p) && decide (p < (2 + 2 ^ k) * (2 + 2 ^ k)) && noDiv p 2 k) = true) : Prim (p : Int) := by
  simp only [Bool.and_eq_true, decide_eq_true_eq] at h
  exact prim_of h.1.1 (prime_nat h.1.1 h.1.2 h.2)
theorem prim_13 : Prim 13 := prim_chk (p := 13) (k := 2) (by decide +kernel)
theorem prim_11 : Prim 11 := prim_chk (p := 11) (k := 1) (by decide +kernel)
theorem prim_7 : Prim 7 := prim_chk (p := 7) (k := 1) (by decide +kernel)
theorem prim_5 : Prim 5 := prim_chk (p := 5) (k := 1) (by decide +kernel)
/-! ### remainders by a prime -/
theorem Cg.iff_dvd {p a b : Int} : Cg p a b ↔ p ∣ a - b := Int.emod_eq_emod_iff_emod_sub_eq_zero.trans ⟨Int.dvd_of_emod_eq_zero, Int.emod_eq_zero_of_dvd⟩
theorem Cg.zero_iff {p a : Int} : Cg p a 0 ↔ p ∣ a := by
  rw [Cg.iff_dvd, Int.sub_zero]
theorem Cg.pow {p a b : Int} (h : Cg p a b) : ∀ n : Nat, Cg p (a ^ n) (b ^ n)
  | 0 => by rw [Int.pow_zero, Int.pow_zero]; exact .refl
  | n + 1 => by
    rw [Int.pow_succ, Int.pow_succ]
    exact (Cg.pow h n).mul h
theorem Prim.cancel {p a b c : Int} (P : Prim p) (h : Cg p (a * b) (a * c)) (ha : ¬ Cg p a 0) : Cg p b c := by
  rw [Cg.iff_dvd, ← Int.mul_sub] at h
  rcases P.euc _ _ h with z | z
  · exact absurd (Cg.zero_iff.mpr z) ha
  · exact Cg.iff_dvd.mpr z
theorem Prim.mul_zero {p a b : Int} (P : Prim p) (h : Cg p (a * b) 0) : Cg p a 0 ∨ Cg p b 0 := by
  rw [Cg.zero_iff, Cg.zero_iff]
  exact P.euc _ _ (Cg.zero_iff.mp h)
theorem Prim.one_ne {p : Int} (P : Prim p) : ¬ Cg p 1 0 := fun h => by
  have := P.two
  have h := Int.le_of_dvd (by decide) (Cg.zero_iff.mp h)
  omega
/-- two numbers near each other -/
theorem near_ne {p i j : Int} (h1 : i ≠ j) (h2 : i - j < p) (h3 : j - i < p) : ¬ Cg p (i - j) 0 := fun h => by
  obtain ⟨c, hc⟩ := Cg.zero_iff.mp h
  rcases Int.lt_trichotomy c 0 with z | z | z
  · have : p * c ≤ p * (-1) := Int.mul_le_mul_of_nonneg_left (by omega) (by omega)
    omega
  · rw [z, Int.mul_zero] at hc; omega
  · have : p * 1 ≤ p * c := Int.mul_le_mul_of_nonneg_left (by omega) (by omega)
    omega

/-! ### the small theorem of Fermat -/
def choose : Nat → Nat → Nat
  | _, 0 => 1
  | 0, _ + 1 => 0
  | n + 1, k + 1 => choose n k + choose n (k + 1)
theorem choose_big : ∀ (n k : Nat), n < k → choose n k = 0
  | 0, k + 1, _ => rfl
  | n + 1, k + 1, h => by
    show choose n k + choose n (k + 1) = 0
    rw [choose_big n k (by omega), choose_big n (k + 1) (by omega)]
theorem choose_self : ∀ n : Nat, choose n n = 1
  | 0 => rfl
  | n + 1 => by
    show choose n n + choose n (n + 1) = 1
    rw [choose_self n, choose_big n (n + 1) (by omega)]
theorem choose_abs : ∀ (n k : Nat), (k + 1) * choose (n + 1) (k + 1) = (n + 1) * choose n k
  | 0, 0 => rfl
  | 0, k + 1 => by
    show (k + 1 + 1) * (choose 0 (k + 1) + choose 0 (k + 1 + 1)) = (0 + 1) * choose 0 (k + 1)
    rw [choose_big 0 (k + 1) (by omega), choose_big 0 (k + 1 + 1) (by omega)]; simp
  | n + 1, 0 => by
    have h := choose_abs n 0
    show (0 + 1) * (choose (n + 1) 0 + choose (n + 1) (0 + 1)) = (n + 1 + 1) * 1
    have e : choose (n + 1) 0 = 1 := by unfold choose; rfl
    have e2 : choose n 0 = 1 := by cases n <;> rfl
    rw [e2] at h
    rw [e]; omega
  | n + 1, k + 1 => by
    have h1 := choose_abs n k
    have h2 := choose_abs n (k + 1)
    show (k + 1 + 1) * (choose (n + 1) (k + 1) + choose (n + 1) (k + 1 + 1)) = (n + 1 + 1) * choose (n + 1) (k + 1)
    have h3 : choose (n + 1) (k + 1) = choose n k + choose n (k + 1) := rfl
    rw [Nat.mul_add, h2]
    have e1 : (k + 1 + 1) * choose (n + 1) (k + 1) = (k + 1) * choose (n + 1) (k + 1) + choose (n + 1) (k + 1) := by rw [Nat.add_mul (k + 1), Nat.one_mul]
    have e2 : (n + 1 + 1) * choose (n + 1) (k + 1) = (n + 1) * choose (n + 1) (k + 1) + choose (n + 1) (k + 1) := by rw [Nat.add_mul (n + 1), Nat.one_mul]
    rw [e1, e2, h1]
    have e3 : (n + 1) * choose (n + 1) (k + 1) = (n + 1) * choose n k + (n + 1) * choose n (k + 1) := by rw [h3, Nat.mul_add]
    omega
theorem S_add {f g : Nat → Int} : ∀ n : Nat, S n (fun i => f i + g i) = S n f + S n g
  | 0 => rfl
  | n + 1 => by
    show S n (fun i => f i + g i) + (f n + g n) = S n f + f n + (S n g + g n)
    rw [S_add n]; omega
theorem S_mul {c : Int} {f : Nat → Int} : ∀ n : Nat, S n (fun i => c * f i) = c * S n f
  | 0 => by show (0 : Int) = c * 0; omega
  | n + 1 => by
    show S n (fun i => c * f i) + c * f n = c * (S n f + f n)
    rw [S_mul n, Int.mul_add]
theorem binom (a : Int) : ∀ n : Nat, (a + 1) ^ n = S (n + 1) fun k => (choose n k : Int) * a ^ k
  | 0 => by
    show (a + 1) ^ 0 = 0 + ((1 : Nat) : Int) * a ^ 0
    rw [Int.pow_zero, Int.pow_zero]; rfl
  | n + 1 => by
    rw [Int.pow_succ, binom a n, Int.mul_add, Int.mul_one, S_head (n + 1)]
    have e0 : ((choose (n + 1) 0 : Nat) : Int) * a ^ 0 = 1 := by
      have : choose (n + 1) 0 = 1 := by unfold choose; rfl
      rw [this, Int.pow_zero]; rfl
    rw [e0]
    have e1 : (S (n + 1) fun k => ((choose (n + 1) (k + 1) : Nat) : Int) * a ^ (k + 1)) = (S (n + 1) fun k => (choose n k : Int) * a ^ (k + 1)) + S (n + 1) fun k => (choose n (k + 1) : Int) * a ^ (k + 1) := by
      rw [← S_add]
      refine S_eq _ fun k _ => ?_
      show (((choose n k + choose n (k + 1) : Nat)) : Int) * a ^ (k + 1) = _
      rw [Int.natCast_add, Int.add_mul]
    have e2 : (S (n + 1) fun k => (choose n k : Int) * a ^ (k + 1)) = (S (n + 1) fun k => (choose n k : Int) * a ^ k) * a := by
      rw [Int.mul_comm _ a, ← S_mul]
      refine S_eq _ fun k _ => ?_
      show _ = a * ((choose n k : Int) * a ^ k)
      rw [Int.pow_succ]
      grind
    have e3 : (S (n + 1) fun k => (choose n (k + 1) : Int) * a ^ (k + 1)) + 1 = S (n + 1) fun k => (choose n k : Int) * a ^ k := by
      show (S n fun k => (choose n (k + 1) : Int) * a ^ (k + 1)) + ((choose n (n + 1) : Nat) : Int) * a ^ (n + 1) + 1 = _
      rw [choose_big n (n + 1) (by omega), S_head n]
      have : ((choose n 0 : Nat) : Int) * a ^ 0 = 1 := by
        have : choose n 0 = 1 := by cases n <;> rfl
        rw [this, Int.pow_zero]; rfl
      rw [this]
      show _ + (0 : Int) * a ^ (n + 1) + 1 = _
      omega
    rw [e1, e2]
    omega
theorem Prim.choose {p k : Nat} (P : Prim (p : Int)) (h0 : 0 < k) (h1 : k < p) : Cg (p : Int) (choose p k : Int) 0 := by
  obtain ⟨k, rfl⟩ : ∃ j, k = j + 1 := ⟨k - 1, by omega⟩
  obtain ⟨q, rfl⟩ : ∃ q, p = q + 1 := ⟨p - 1, by omega⟩
  have e := choose_abs q k
  have d : ((q + 1 : Nat) : Int) ∣ ((k + 1 : Nat) : Int) * (Dl.choose (q + 1) (k + 1) : Int) := by
    rw [← Int.natCast_mul, e, Int.natCast_mul]
    exact Int.dvd_mul_right _ _
  rcases P.euc _ _ d with z | z
  · have := Int.le_of_dvd (by omega) z
    omega
  · exact Cg.zero_iff.mpr z
theorem fermat_succ {p : Nat} (P : Prim (p : Int)) (a : Int) : Cg (p : Int) ((a + 1) ^ p) (a ^ p + 1) := by
  rw [binom]
  obtain ⟨q, rfl⟩ : ∃ q, p = q + 1 := ⟨p - 1, by have := P.two; omega⟩
  rw [S_head]
  show Cg _ (((Dl.choose (q + 1) 0 : Nat) : Int) * a ^ 0 + ((S q fun k => (Dl.choose (q + 1) (k + 1) : Int) * a ^ (k + 1)) + ((Dl.choose (q + 1) (q + 1) : Nat) : Int) * a ^ (q + 1))) _
  rw [choose_self]
  have e0 : ((Dl.choose (q + 1) 0 : Nat) : Int) * a ^ 0 = 1 := by
    have : Dl.choose (q + 1) 0 = 1 := by unfold Dl.choose; rfl
    rw [this, Int.pow_zero]; rfl
  rw [e0]
  have z : Cg ((q + 1 : Nat) : Int) (S q fun k => (Dl.choose (q + 1) (k + 1) : Int) * a ^ (k + 1)) (S q fun _ => 0) := S_cg q fun k hk => by
    have := (P.choose (k := k + 1) (by omega) (by omega)).mul (Cg.refl (a := a ^ (k + 1)))
    rw [Int.zero_mul] at this
    exact this
  have z0 : ∀ n, S n (fun _ => 0) = 0 := fun n => by
    induction n with
    | zero => rfl
    | succ n ih => show S n _ + 0 = 0; rw [ih]; rfl
  rw [z0] at z
  refine (Cg.add .refl (z.add .refl)).trans (.of_eq ?_)
  show (1 : Int) + (0 + ((1 : Nat) : Int) * a ^ (q + 1)) = _
  omega
theorem fermat_nat {p : Nat} (P : Prim (p : Int)) : ∀ n : Nat, Cg (p : Int) ((n : Int) ^ p) n
  | 0 => by
    have : ((0 : Nat) : Int) ^ p = 0 := by
      obtain ⟨q, rfl⟩ : ∃ q, p = q + 1 := ⟨p - 1, by have := P.two; omega⟩
      rw [Int.pow_succ]
      exact Int.mul_zero _
    rw [this]; exact .refl
  | n + 1 => by
    rw [Int.natCast_add]
    exact (fermat_succ P n).trans ((fermat_nat P n).add .refl)
theorem fermat {p : Nat} (P : Prim (p : Int)) (a : Int) : Cg (p : Int) (a ^ p) a := by
  have hp := P.two
  have h : a % (p : Int) = ((a % (p : Int)).toNat : Int) := (Int.toNat_of_nonneg (Int.emod_nonneg _ (by omega))).symm
  have e : Cg (p : Int) (((a % (p : Int)).toNat : Nat) : Int) a := by
    rw [← h]
    exact .mod
  exact (e.symm.pow p).trans ((fermat_nat P _).trans e)
/-- the inverse by a power -/
theorem fermat_inv {p : Int} (P : Prim p) {a : Int} (h : ¬ Cg p a 0) : Cg p (a ^ (p - 2).toNat * a) 1 := by
  have hp := P.two
  obtain ⟨n, rfl⟩ := Int.eq_ofNat_of_zero_le (show 0 ≤ p by omega)
  have e : ((n : Int) - 2).toNat + 1 + 1 = n := by omega
  have f := fermat P a
  rw [← e, Int.pow_succ, Int.pow_succ] at f
  refine P.cancel (a := a) ?_ h
  rw [Int.mul_one, Int.mul_comm a]
  rw [e] at f
  exact f
end Dl

namespace Dl
/-! ### polynomials by their coefficients -/
def pev : List Int → Int → Int
  | [], _ => 0
  | c :: cs, t => c + t * pev cs t
/-- the values of the ends -/
def syn (a : Int) : List Int → List Int
  | [] => []
  | c :: cs => pev (c :: cs) a :: syn a cs
theorem syn_len (a : Int) : ∀ cs : List Int, (syn a cs).length = cs.length
  | [] => rfl
  | c :: cs => by
    show (syn a cs).length + 1 = cs.length + 1
    rw [syn_len a cs]
theorem syn_div (a t : Int) : ∀ (c : Int) (cs : List Int), pev (c :: cs) t - pev (c :: cs) a = (t - a) * pev (syn a cs) t
  | c, [] => by
    show c + t * 0 - (c + a * 0) = (t - a) * 0
    omega
  | c, d :: ds => by
    have ih := syn_div a t d ds
    show c + t * pev (d :: ds) t - (c + a * pev (d :: ds) a) = (t - a) * (pev (d :: ds) a + t * pev (syn a ds) t)
    have e : t * ((t - a) * pev (syn a ds) t) = t * (pev (d :: ds) t - pev (d :: ds) a) := by rw [ih]
    grind
/-- all numbers of the list are 0 but for multiples of p -/
def Zer (p : Int) (cs : List Int) : Prop := ∀ c ∈ cs, Cg p c 0
theorem Zer.pev {p : Int} {cs : List Int} (h : Zer p cs) (t : Int) : Cg p (pev cs t) 0 := by
  induction cs with
  | nil => exact .refl
  | cons c cs ih =>
    have h1 := (h c List.mem_cons_self).add ((Cg.refl (a := t)).mul (ih fun x hx => h x (List.mem_cons_of_mem _ hx)))
    rw [Int.mul_zero] at h1
    exact h1
theorem Zer.of_syn {p a : Int} : ∀ {cs : List Int}, Zer p (syn a cs) → Zer p cs
  | [], _ => fun _ h => nomatch h
  | c :: cs, h => by
    have ih := Zer.of_syn (cs := cs) fun x hx => h x (List.mem_cons_of_mem _ hx)
    intro x hx
    rcases List.mem_cons.mp hx with rfl | hx
    · have h1 : Cg p (x + a * Dl.pev cs a) 0 := h _ List.mem_cons_self
      have h2 := (Cg.refl (a := a)).mul (ih.pev a)
      rw [Int.mul_zero] at h2
      have h3 := h1.sub h2
      rw [show x + a * Dl.pev cs a - a * Dl.pev cs a = x by omega] at h3
      exact h3
    · exact ih x hx
/-- as many roots as coefficients: nothing is left -/
theorem roots_zero {p : Int} (P : Prim p) : ∀ (xs cs : List Int), xs.Pairwise (fun x y => ¬ Cg p (x - y) 0) → cs.length ≤ xs.length → (∀ x ∈ xs, Cg p (pev cs x) 0) → Zer p cs
  | _, [], _, _, _ => fun _ h => nomatch h
  | [], c :: cs, _, h, _ => by simp at h
  | x :: xs, c :: cs, hd, hl, hr => by
    rw [List.pairwise_cons] at hd
    have hx := hr x List.mem_cons_self
    have hs : Zer p (syn x cs) := roots_zero P xs (syn x cs) hd.2 (by rw [syn_len]; simpa using hl) fun y hy => by
      have h1 := (hr y (List.mem_cons_of_mem _ hy)).sub hx
      rw [syn_div] at h1
      rcases P.mul_zero h1 with z | z
      · have z2 := z.neg
        rw [show -(y - x) = x - y by omega] at z2
        exact absurd z2 (hd.1 y hy)
      · exact z
    have hz := Zer.of_syn hs
    intro y hy
    rcases List.mem_cons.mp hy with rfl | hy
    · have h2 := (Cg.refl (a := x)).mul (hz.pev x)
      rw [Int.mul_zero] at h2
      have h1 : Cg p (y + x * pev cs x) 0 := hx
      have h3 := h1.sub h2
      rw [show y + x * pev cs x - x * pev cs x = y by omega] at h3
      exact h3
    · exact hz y hy
def padd : List Int → List Int → List Int
  | [], ds => ds
  | cs, [] => cs
  | c :: cs, d :: ds => (c + d) :: padd cs ds
theorem padd_pev (t : Int) : ∀ cs ds : List Int, pev (padd cs ds) t = pev cs t + pev ds t
  | [], ds => by
    show pev ds t = 0 + pev ds t
    omega
  | c :: cs, [] => by
    show pev (c :: cs) t = pev (c :: cs) t + 0
    omega
  | c :: cs, d :: ds => by
    show c + d + t * pev (padd cs ds) t = c + t * pev cs t + (d + t * pev ds t)
    rw [padd_pev t cs ds, Int.mul_add]; omega
theorem padd_len : ∀ cs ds : List Int, (padd cs ds).length = max cs.length ds.length
  | [], ds => by simp [padd]
  | c :: cs, [] => by simp [padd]
  | c :: cs, d :: ds => by
    show (padd cs ds).length + 1 = max (cs.length + 1) (ds.length + 1)
    rw [padd_len cs ds]; omega
theorem pmul_pev (a t : Int) : ∀ cs : List Int, pev (cs.map fun c => a * c) t = a * pev cs t
  | [] => by show (0 : Int) = a * 0; omega
  | c :: cs => by
    show a * c + t * pev (cs.map fun c => a * c) t = a * (c + t * pev cs t)
    rw [pmul_pev a t cs, Int.mul_add, ← Int.mul_assoc, ← Int.mul_assoc, Int.mul_comm t a]
/-- f is a polynomial of degree at most n, but for multiples of p -/
def Pol (p : Int) (n : Nat) (f : Int → Int) : Prop := ∃ cs : List Int, cs.length ≤ n + 1 ∧ ∀ t, Cg p (f t) (pev cs t)
section
variable {p : Int} {n m : Nat} {f g : Int → Int}
theorem Pol.const (c : Int) : Pol p n (fun _ => c) := ⟨[c], by simp, fun t => .of_eq (by show c = c + t * 0; omega)⟩
theorem Pol.mono (h : Pol p n f) (l : n ≤ m) : Pol p m f := by
  obtain ⟨cs, h1, h2⟩ := h
  exact ⟨cs, by omega, h2⟩
theorem Pol.congr (h : Pol p n f) (e : ∀ t, Cg p (g t) (f t)) : Pol p n g := by
  obtain ⟨cs, h1, h2⟩ := h
  exact ⟨cs, h1, fun t => (e t).trans (h2 t)⟩
theorem Pol.add (h : Pol p n f) (k : Pol p n g) : Pol p n fun t => f t + g t := by
  obtain ⟨cs, h1, h2⟩ := h
  obtain ⟨ds, k1, k2⟩ := k
  exact ⟨padd cs ds, by rw [padd_len]; omega, fun t => by rw [padd_pev]; exact (h2 t).add (k2 t)⟩
theorem Pol.smul (a : Int) (h : Pol p n f) : Pol p n fun t => a * f t := by
  obtain ⟨cs, h1, h2⟩ := h
  exact ⟨cs.map fun c => a * c, by rw [List.length_map]; exact h1, fun t => by rw [pmul_pev]; exact Cg.mul .refl (h2 t)⟩
theorem Pol.sub (h : Pol p n f) (k : Pol p n g) : Pol p n fun t => f t - g t :=
  (h.add (k.smul (-1))).congr fun t => .of_eq (by omega)
theorem Pol.tmul (h : Pol p n f) : Pol p (n + 1) fun t => t * f t := by
  obtain ⟨cs, h1, h2⟩ := h
  exact ⟨0 :: cs, by simpa using h1, fun t => (Cg.mul .refl (h2 t)).trans (.of_eq (by show t * pev cs t = 0 + t * pev cs t; omega))⟩
theorem Pol.lin (a b : Int) (h : Pol p n f) : Pol p (n + 1) fun t => (a + b * t) * f t :=
  ((h.smul a).mono (Nat.le_succ n) |>.add (h.tmul.smul b)).congr fun t => .of_eq (by rw [Int.add_mul, Int.mul_assoc])
theorem Pol.sum {F : Nat → Int → Int} : ∀ k : Nat, (∀ i < k, Pol p n (F i)) → Pol p n fun t => S k fun i => F i t
  | 0, _ => .const 0
  | k + 1, h => (Pol.sum k fun i hi => h i (by omega)).add (h k (by omega))
theorem Pol.pev (cs : List Int) (h : cs.length ≤ n + 1) : Pol p n (Dl.pev cs) := ⟨cs, h, fun _ => .refl⟩
/-- equal at n + 1 places: equal everywhere -/
theorem Pol.ext (P : Prim p) (h : Pol p n f) (k : Pol p n g) (xs : List Int) (hd : xs.Pairwise (fun x y => ¬ Cg p (x - y) 0)) (hl : n + 1 ≤ xs.length) (e : ∀ x ∈ xs, Cg p (f x) (g x)) (t : Int) : Cg p (f t) (g t) := by
  obtain ⟨cs, h1, h2⟩ := h.sub k
  have z := roots_zero P xs cs hd (by omega) fun x hx => by
    have := (e x hx).sub (Cg.refl (a := g x))
    rw [Int.sub_self] at this
    exact (h2 x).symm.trans this
  have w := ((h2 t).trans (z.pev t)).add (Cg.refl (a := g t))
  rw [show f t - g t + g t = f t by omega, Int.zero_add] at w
  exact w
end
/-- 0, 1, …, n - 1, told apart by p -/
theorem nodes {p : Int} {n : Nat} (h : (n : Int) ≤ p) : ((List.range n).map fun i : Nat => (i : Int)).Pairwise (fun x y => ¬ Cg p (x - y) 0) := by
  rw [List.pairwise_map]
  refine List.Pairwise.imp_of_mem (R := fun a b => a < b) ?_ (List.pairwise_lt_range)
  intro a b ha hb hab
  have ha := List.mem_range.mp ha
  have hb := List.mem_range.mp hb
  exact near_ne (by omega) (by omega) (by omega)
theorem Pol.extN {p : Int} {n : Nat} {f g : Int → Int} (P : Prim p) (hn : ((n + 1 : Nat) : Int) ≤ p) (h : Pol p n f) (k : Pol p n g) (e : ∀ i : Nat, i ≤ n → Cg p (f i) (g i)) (t : Int) : Cg p (f t) (g t) :=
  h.ext P k _ (nodes hn) (by simp) (fun x hx => by
    obtain ⟨i, hi, rfl⟩ := List.mem_map.mp hx
    exact e i (by have := List.mem_range.mp hi; omega)) t
/-! ### Lagrange -/
/-- the product of t - j over all j < n but k -/
def above (k : Nat) (t : Int) : Nat → Int
  | 0 => 1
  | j + 1 => if j = k then above k t j else above k t j * (t - (j : Nat))
theorem above_pol {p : Int} (k : Nat) : ∀ n : Nat, Pol p n (fun t => above k t n) ∧ (k < n → Pol p (n - 1) (fun t => above k t n))
  | 0 => ⟨.const 1, fun h => absurd h (Nat.not_lt_zero _)⟩
  | n + 1 => by
    obtain ⟨h1, h2⟩ := above_pol (p := p) k n
    by_cases hk : n = k
    · have e : ∀ t, above k t (n + 1) = above k t n := fun t => if_pos hk
      refine ⟨(h1.mono (Nat.le_succ n)).congr fun t => .of_eq (e t), fun _ => h1.congr fun t => .of_eq (e t)⟩
    · have e : ∀ t, above k t (n + 1) = above k t n * (t - (n : Nat)) := fun t => if_neg hk
      refine ⟨(h1.lin (-(n : Nat)) 1).congr fun t => .of_eq (by rw [e, Int.mul_comm]; congr 1; omega), fun hkn => ?_⟩
      have h3 := (h2 (by omega)).lin (-(n : Nat)) 1
      rw [show n - 1 + 1 = n + 1 - 1 by omega] at h3
      exact h3.congr fun t => .of_eq (by rw [e, Int.mul_comm]; congr 1; omega)
theorem above_zero {k i : Nat} (hik : i ≠ k) : ∀ n : Nat, i < n → above k (i : Nat) n = 0
  | n + 1, h => by
    unfold above
    by_cases hk : n = k
    · rw [if_pos hk]
      exact above_zero hik n (by omega)
    · rw [if_neg hk]
      by_cases hi : i = n
      · rw [hi, Int.sub_self, Int.mul_zero]
      · rw [above_zero hik n (by omega), Int.zero_mul]
theorem above_ne {p : Int} (P : Prim p) {k : Nat} : ∀ n : Nat, ((n : Nat) : Int) ≤ p → (k : Int) < p → ¬ Cg p (above k (k : Nat) n) 0
  | 0, _, _ => P.one_ne
  | n + 1, h, hk => by
    unfold above
    by_cases e : n = k
    · rw [if_pos e]
      exact above_ne P n (by omega) hk
    · rw [if_neg e]
      intro z
      rcases P.mul_zero z with z | z
      · exact above_ne P n (by omega) hk z
      · exact near_ne (by omega) (by omega) (by omega) z
/-- the polynomial through the values at 0, …, n -/
theorem lagrange {p : Int} (P : Prim p) {n : Nat} (hn : ((n + 1 : Nat) : Int) ≤ p) {f : Int → Int} (h : Pol p n f) (I : Nat → Int) (hI : ∀ k ≤ n, Cg p (above k (k : Nat) (n + 1) * I k) 1) (t : Int) :
    Cg p (S (n + 1) fun k => f (k : Nat) * (above k t (n + 1) * I k)) (f t) := by
  have hg : Pol p n fun t => S (n + 1) fun k => f (k : Nat) * (above k t (n + 1) * I k) := Pol.sum (n + 1) fun k hk =>
    (((above_pol (p := p) k (n + 1)).2 hk).smul (f (k : Nat) * I k)).congr fun t => .of_eq (by rw [Int.mul_assoc, Int.mul_comm (I k)])
  refine Pol.extN P hn hg h (fun i hi => ?_) t
  have key : ∀ m : Nat, m ≤ n + 1 → Cg p (S m fun k => f (k : Nat) * (above k (i : Nat) (n + 1) * I k)) (if i < m then f (i : Nat) else 0) := by
    intro m
    induction m with
    | zero => intro _; exact .refl
    | succ m ih =>
      intro hm
      have ih := ih (by omega)
      show Cg p (S m _ + f (m : Nat) * (above m (i : Nat) (n + 1) * I m)) _
      by_cases e : i = m
      · subst e
        rw [if_neg (by omega)] at ih
        rw [if_pos (by omega)]
        have := ih.add ((Cg.refl (a := f (i : Nat))).mul (hI i (by omega)))
        rw [Int.zero_add, Int.mul_one] at this
        exact this
      · rw [above_zero e (n + 1) (by omega), Int.zero_mul, Int.mul_zero, Int.add_zero]
        by_cases hl : i < m
        · rw [if_pos hl] at ih
          rw [if_pos (by omega)]
          exact ih
        · rw [if_neg hl] at ih
          rw [if_neg (by omega)]
          exact ih
  have := key (n + 1) (Nat.le_refl _)
  rw [if_pos (by omega)] at this
  exact this
/-! ### more of reading -/
theorem All2.all {α : Type} {P : Int → Prop} {xs : List α} {ys : List Int} (h : All2 (fun _ y => P y) xs ys) : ∀ y ∈ ys, P y := by
  induction h with
  | nil => intro y hy; cases hy
  | cons h _ ih =>
    intro y hy
    rcases List.mem_cons.mp hy with rfl | hy
    · exact h
    · exact ih y hy
theorem cut_map {α : Type} {f : α → D} {xs : List α} {l u : Option Int} : ∃ ys : List α, cutD (xs.map f) l u = ys.map f ∧ ys.length ≤ xs.length := by
  refine ⟨(xs.drop (HT.sIx (xs.map f).length 0 l)).take (HT.sIx (xs.map f).length (xs.map f).length u - HT.sIx (xs.map f).length 0 l), ?_, ?_⟩
  · unfold cutD
    rw [← List.map_drop, ← List.map_take]
  · rw [List.length_take, List.length_drop]; omega
end Dl

namespace Dl
open PySem L2
/-! ### a list over and over -/
theorem repAll_many {K : PySem.W.Frag} {w : Wd} {ds : List D} {vs : List V} (r : RepAll K w ds vs) : ∀ k : Nat, RepAll K w (List.replicate k ds).flatten (List.replicate k vs).flatten
  | 0 => rfl
  | k + 1 => by
    rw [List.replicate_succ, List.replicate_succ, List.flatten_cons, List.flatten_cons]
    exact r.append (repAll_many r k)
end Dl

namespace Dl
open PySem L2
/-! ### the drawing state of the other kind: a row of numbers, the first a place in it -/
section
variable {K : PySem.W.Frag} {w : Wd} {m : MM} {H : Hp} {A c : Addr}
theorem HRep.openedR (h : HRep K w m H) (h1 : m.s = 1) (hS : w.S = some ⟨A, c, 1⟩) : ∃ (j : Int) (ns : List Int), 1 ≤ j ∧ HRep K (w.add A) ⟨m.M ++ [.lst ((j :: ns).map D.int)], 2⟩ H ∧ w.le (w.add A) := by
  obtain ⟨hok, h2⟩ := h.ls h1 _ hS
  obtain ⟨j, ns, hj, hA⟩ : ∃ (j : Int) (ns : List Int), 1 ≤ j ∧ H A = some (.lst ((j :: ns).map V.int)) := hok
  have fA := h2 A (by show A ∈ [A]; simp)
  exact ⟨j, ns, hj, (h.turn (s := 2) (by decide) (by decide)).adopt (o := .lst ((j :: ns).map D.int)) (by show (2 : Nat) ≠ 1; decide) fA.2.1 fA.1 ⟨_, hA, repAll_intsD (j :: ns)⟩, Wd.le_add⟩
end
def C_streamO : DC := fun ds m Φ _ => (∃ ns : List Int, ds = [.rol (ns.map D.int)] ∧ ns.length ≤ 1000) ∧ ∀ (cells : List Int), Φ (.hnd m.M.length) ⟨m.M ++ [.lst ((1 :: cells).map D.int)], m.s⟩
def C_stream : DC := fun ds m Φ _ => (∃ ns : List Int, ds = [.rol (ns.map D.int)] ∧ ns.length ≤ 1000) ∧ m.s = 0 ∧ Φ (.st 1) ⟨m.M, 1⟩
def C_takeO : DC := fun ds m Φ _ => ∃ (k : Nat) (j : Int) (cells : List Int) (n : Int), ds = [.hnd k, .int n] ∧ 0 < n ∧ n < 2 ^ 64 ∧ 1 ≤ j ∧ m.M[k]? = some (.lst ((j :: cells).map D.int)) ∧
  ∀ (r j' : Int), 1 ≤ j' → 0 ≤ r → r < n → Φ (.int r) ⟨m.M.set k (.lst ((j' :: cells).map D.int)), m.s⟩
def C_take : DC := fun ds m Φ _ => ∃ n : Int, ds = [.st 1, .int n] ∧ m.s = 1 ∧ 0 < n ∧ n < 2 ^ 64 ∧ ∀ r : Int, 0 ≤ r → r < n → Φ (.int r) m
section
variable {P : Program} {w : World} {K : PySem.W.Frag} {mg : Str → Option Value} {base : Heap} {x : Str} {lv : Nat} {ps : List Str}
theorem stream_close (h : Ok P w K mg base x lv ps C_streamO) : Ok P w K mg base x lv ps C_stream := h.impV fun vs H Q E ⟨z, w0, ds, m, Φ, Ψ, h0, r, vl, xl, hds, hs, q⟩ => by
  refine ⟨z, w0, ds, m, fun d m' => ∃ cells : List Int, d = .hnd m.M.length ∧ m' = ⟨m.M ++ [.lst ((1 :: cells).map D.int)], m.s⟩, Ψ, h0, r, ?_, xl, hds, fun cells => ⟨cells, rfl, rfl⟩⟩
  rintro d m' w' H' v l h' rd ⟨cells, rfl, rfl⟩
  obtain ⟨A, rfl, eA⟩ := rd
  have hS : w'.S = none := h'.flag.1 hs
  have gA : (m.M ++ [MO.lst ((1 :: cells).map D.int)])[m.M.length]? = some (.lst ((1 :: cells).map D.int)) := by
    rw [List.getElem?_append_right (Nat.le_refl _)]; simp
  obtain ⟨xs, hA, rx⟩ := h'.obj _ A _ eA gA
  have ex := ints_ok (ints_map (1 :: cells)) rx
  subst ex
  have lS : w'.le ⟨w'.F, w'.th, some ⟨A, A, 1⟩⟩ := ⟨fun _ _ h => h, fun _ _ h => h, fun S e => by rw [hS] at e; cases e⟩
  have h2 : HRep K ⟨w'.F, w'.th, some ⟨A, A, 1⟩⟩ ⟨m.M ++ [.lst ((1 :: cells).map D.int)], 2⟩ H' :=
    ⟨h'.ext, h'.len, h'.nd, fun k a o q1 q2 => (h'.obj k a o q1 q2).mono lS rfl, h'.thF, fun q => (by cases q), ⟨fun q => (by cases q), fun q => (by cases q)⟩⟩
  have h3 := h2.closed (M0 := m.M) (S := ⟨A, A, 1⟩) (by show (m.M ++ _).take _ = _; rw [List.take_left' rfl]) rfl h0.cls (fun a ha => by
    have ha : a ∈ [A] := ha
    rw [List.mem_singleton.mp ha]
    exact ⟨_, Nat.le_refl _, eA, _, gA, fun z => by cases z⟩) ⟨1, cells, by decide, hA⟩
  exact vl (.st 1) ⟨m.M, 1⟩ _ H' _ (Wd.le_cut (l.trans lS) (Nat.le_of_eq h0.len)) h3 ⟨⟨A, A, 1⟩, rfl, rfl, rfl⟩ q
theorem take_close (h : Ok P w K mg base x lv ps C_takeO) : Ok P w K mg base x lv ps C_take := h.impV fun vs H Q E ⟨z, w0, ds, m, Φ, Ψ, h0, r, vl, xl, n, hds, hs, hn, hn2, q⟩ => by
  subst hds
  obtain ⟨v1, v2, rfl, ⟨⟨A, c, k⟩, hS, hk, rfl⟩, rfl⟩ := rep2 r
  have hk : k = 1 := hk
  subst hk
  obtain ⟨j, cells, hj, h1, l1⟩ := h0.openedR hs hS
  have e1 : (w0.add A).th[m.M.length]? = some A := by
    show (w0.th ++ [A])[m.M.length]? = some A
    rw [← h0.len, List.getElem?_append_right (Nat.le_refl _)]; simp
  have gA : ∀ i : Int, (m.M ++ [MO.lst ((i :: cells).map D.int)])[m.M.length]? = some (.lst ((i :: cells).map D.int)) := fun i => by
    rw [List.getElem?_append_right (Nat.le_refl _)]; simp
  refine ⟨z, w0.add A, [.hnd m.M.length, .int n], ⟨m.M ++ [.lst ((j :: cells).map D.int)], 2⟩, fun d m' => ∃ (r j' : Int), d = .int r ∧ 1 ≤ j' ∧ 0 ≤ r ∧ r < n ∧ m' = ⟨m.M ++ [.lst ((j' :: cells).map D.int)], 2⟩, XF, h1, ⟨.ref A, _, rfl, ⟨A, rfl, e1⟩, .int n, [], rfl, rfl, rfl⟩, ?_, fun _ _ _ _ _ _ _ _ _ _ _ q => q.elim, m.M.length, j, cells, n, rfl, hn, hn2, hj, gA j, fun r j' hj' hr0 hr1 => ⟨r, j', rfl, hj', hr0, hr1, ?_⟩⟩
  · rintro d m' w' H' v l h' rd ⟨r, j', rfl, hj', hr0, hr1, rfl⟩
    have rd : v = .int r := rd
    subst rd
    have f1 := l.th _ _ e1
    obtain ⟨xs, hA, rx⟩ := h'.obj _ A _ f1 (gA j')
    have ex := ints_ok (ints_map (j' :: cells)) rx
    subst ex
    have lall := l1.trans l
    have hS' : w'.S = some ⟨A, c, 1⟩ := lall.S _ hS
    have h3 := h'.closed (M0 := m.M) (S := ⟨A, c, 1⟩) (by show (m.M ++ _).take _ = _; rw [List.take_left' rfl]) hS' h0.cls (fun a ha => by
      have ha : a ∈ [A] := ha
      rw [List.mem_singleton.mp ha]
      exact ⟨_, Nat.le_refl _, f1, _, gA j', fun z => by cases z⟩) ⟨j', cells, hj', hA⟩
    have em : (⟨m.M, 1⟩ : MM) = m := by rw [← hs]
    rw [em] at h3
    exact vl (.int r) m _ H' _ (Wd.le_cut lall (Nat.le_of_eq h0.len)) h3 rfl (q r hr0 hr1)
  · show (⟨_, 2⟩ : MM) = ⟨_, 2⟩
    congr 1
    rw [List.set_append_right _ _ (Nat.le_refl _)]
    simp
end
local macro_rules | `(tactic| walk_at "dl") => `(tactic| try simp only [dSeq, dSet, dOp, dUn, dVar, dC, dCB, dCons, dNil, dRet, dRetN, dIf, dB, dAnd, dOr, dNot, dDrop, dNext, dMethL, dSetIx, dAndV, dOrV, dNotV, dBlV, dIfE, dLst, dTup, dLstM, dCall, dChain, dAsg, dgName, dgTup, bindD, asT, dFor, diList, diRng1, diRng2, diEnumerate, diZip, diReversed, dLc, dLcM, dYes, wipeD, dAug, dSl, dpN, dpS,
  oI, oI0, oB0, oAdd, oNeg, oEq, oNe, oIx, oIsN, oNotN, isNon, oShl, oApp, oPop, oPopAt, cLen, cInt, cAbs, cSum, cMax2, cMin2, cList, cIsi, tyD, asL, asF, asK, moL_lst, ModC, DivC,
  List.getElem?_cons_zero, List.getElem?_cons_succ, List.set_cons_zero, List.set_cons_succ, List.getElem?_nil, List.length_cons, List.length_nil, List.length_map, Option.map_some, Option.bind_some, Option.isSome_some, if_true, true_and, and_true, MM.push])
def W_stream : DS := dSeq (dSet 1 (dLstM (dCons (dC (.int 1)) (dNil)))) (dSeq (dFor (diList (dSl (dVar 0) (dpN) (dpS (dC (.int 63))))) (dgName 2) (dSeq (dSet 5 (dCB cAbs (dCons (dCB cInt (dCons (dVar 2) (dNil))) (dNil)))) (dFor (diRng1 (dCons (dC (.int 60)) (dNil))) (dgName 4) (dSeq (dDrop (dMethL oApp (dVar 1) (dCons (dOp oMod (dVar 5) (dC (.int 59))) (dNil)))) (dSeq (dSet 5 (dOp oDiv (dVar 5) (dC (.int 59)))) (dIf (dB (dOp oEq (dVar 5) (dC (.int 0)))) (dBreak) (dNext))))))) (dSeq (dSet 3 (dC (.int 7))) (dSeq (dFor (diList (dSl (dVar 0) (dpN) (dpS (dC (.int 63))))) (dgName 2) (dSet 3 (dOp oMod (dCB cInt (dCons (dOp oAdd (dOp oAdd (dOp oMul (dVar 3) (dC (.int 131))) (dVar 2)) (dC (.int 17))) (dNil))) (dC (.int 1000003))))) (dSeq (dFor (diRng1 (dCons (dC (.int 150)) (dNil))) (dgName 4) (dSeq (dSet 3 (dOp oMod (dCB cInt (dCons (dOp oAdd (dOp oAdd (dOp oMul (dVar 3) (dC (.int 48271))) (dOp oMul (dVar 4) (dC (.int 69621)))) (dC (.int 11))) (dNil))) (dC (.int 2147483647)))) (dDrop (dMethL oApp (dVar 1) (dCons (dOp oMod (dOp oDiv (dVar 3) (dC (.int 1009))) (dC (.int 59))) (dNil)))))) (dRet (dVar 1))))))
def W_take : DS := dSeq (dIf (dB (dOp oLt (dOp oIx (dVar 0) (dC (.int 0))) (dCB cLen (dCons (dVar 0) (dNil))))) (dSeq (dSetIx (dOp oAdd (dOp oIx (dVar 0) (dC (.int 0))) (dC (.int 1))) (dVar 0) (dC (.int 0))) (dRet (dOp oMod (dCB cInt (dCons (dOp oIx (dVar 0) (dOp oSub (dOp oIx (dVar 0) (dC (.int 0))) (dC (.int 1)))) (dNil))) (dVar 1)))) (dNext)) (dRet (dC (.int 0)))
theorem rd_stream : ∀ ds m Φ Ψ, ds.length = 1 → C_streamO ds m Φ Ψ → W_stream { nx := fun _ m' => Φ .non m', rt := Φ } (fun _ => Ψ) (ds.map some ++ List.replicate (6 - ds.length) none) m := by
  intro ds m Φ Ψ _ h
  obtain ⟨⟨ns, rfl, hlen⟩, q⟩ := h
  change W_stream _ _ [some (D.rol (ns.map D.int)), none, none, none, none, none] m
  unfold W_stream
  obtain ⟨cs, ecs, lcs⟩ := cut_map (f := D.int) (xs := ns) (l := none) (u := some 63)
  have gx : ∀ l : List Int, (m.M ++ [MO.lst (l.map D.int)])[m.M.length]? = some (MO.lst (l.map D.int)) := fun l => by rw [List.getElem?_append_right (Nat.le_refl _)]; simp
  have st : ∀ (l : List Int) z, (m.M ++ [MO.lst (l.map D.int)]).set m.M.length z = m.M ++ [z] := fun l z => by rw [List.set_append_right _ _ (Nat.le_refl _)]; simp
  have ap : ∀ (l : List Int) (z : Int), (l.map D.int) ++ [D.int z] = (l ++ [z]).map D.int := fun l z => by rw [List.map_append]; rfl
  refine dSeq_k fun k1 h1 => ?_
  walk_at "dl"
  refine ⟨by decide, ?_⟩
  subst h1
  refine dSeq_k fun k1 h1 => ?_
  walk_at "dl"
  rw [ecs]
  refine forW_map (inj := D.int) (fun r ρ m' => ∃ (cells : List Int) (v2 v3 v4 v5 : Option D), ρ = [some (D.rol (ns.map D.int)), some (.hnd m.M.length), v2, v3, v4, v5] ∧ m' = ⟨m.M ++ [.lst ((1 :: cells).map D.int)], m.s⟩ ∧ cells.length + 60 * r.length ≤ 60000) ?_ ?_ cs _ _ ⟨[], _, _, _, _, rfl, rfl, by rw [List.length_nil]; omega⟩
  · rintro c r kk hkk ρ m' ⟨cells, v2, v3, v4, v5, rfl, rfl, hl⟩
    clear h1
    rw [List.length_cons] at hl
    simp only [dgName]
    refine dSeq_k fun k1 h1 => ?_
    walk_at "dl"
    subst h1
    walk_at "dl"
    refine ⟨⟨by decide, by decide⟩, ?_⟩
    simp only [rngD0]
    refine forW_nat (fun i ρ m' => ∃ (cells : List Int) (left : Int) (v4 : Option D), ρ = [some (D.rol (ns.map D.int)), some (.hnd m.M.length), some (.int c), v3, v4, some (.int left)] ∧ m' = ⟨m.M ++ [.lst ((1 :: cells).map D.int)], m.s⟩ ∧ cells.length + 60 * r.length + 60 ≤ 60000 + i) ?_ ?_ ⟨cells, _, _, rfl, rfl, by omega⟩
    · rintro i ki hi hki ρ m' ⟨cells, left, v4, rfl, rfl, hl⟩
      have hi : i < 60 := hi
      simp only [dgName]
      refine dSeq_k fun k1 h1 => ?_
      walk_at "dl"
      simp only [gx, moL_lst, Option.isSome_some, true_and]
      walk_at "dl"
      refine ⟨by decide, by show cells.length + 1 < 16777216; omega, ?_⟩
      rw [st]
      have e1 : (1 :: cells).map D.int ++ [D.int (left % 59)] = (1 :: (cells ++ [left % 59])).map D.int := ap (1 :: cells) _
      rw [e1]
      subst h1
      refine dSeq_k fun k1 h1 => ?_
      walk_at "dl"
      refine ⟨⟨by decide, by decide⟩, ?_⟩
      subst h1
      walk_at "dl"
      refine ⟨rfl, rfl, ?_⟩
      simp only [dBreak]
      split
      · exact hkk _ _ ⟨_, _, _, _, _, rfl, rfl, by rw [List.length_append, List.length_singleton]; omega⟩
      · exact hki _ _ ⟨_, _, _, rfl, rfl, by rw [List.length_append, List.length_singleton]; omega⟩
    · rintro ρ m' ⟨cells, left, v4, rfl, rfl, hl⟩
      have hl : cells.length + 60 * r.length + 60 ≤ 60000 + 60 := hl
      exact hkk _ _ ⟨_, _, _, _, _, rfl, rfl, by omega⟩
  · rintro ρ m' ⟨cells, v2, v3, v4, v5, rfl, rfl, hl⟩
    subst h1
    dsimp only
    refine dSeq_k fun k1 h1 => ?_
    walk_at "dl"
    subst h1
    refine dSeq_k fun k1 h1 => ?_
    walk_at "dl"
    rw [ecs]
    refine forW_map (inj := D.int) (fun _ ρ m' => ∃ (seed : Int) (v2 : Option D), ρ = [some (D.rol (ns.map D.int)), some (.hnd m.M.length), v2, some (.int seed), v4, v5] ∧ m' = ⟨m.M ++ [.lst ((1 :: cells).map D.int)], m.s⟩) ?_ ?_ cs _ _ ⟨7, _, rfl, rfl⟩
    · rintro c r kk hkk ρ m' ⟨seed, v2, rfl, rfl⟩
      walk_at "dl"
      exact ⟨.inr (.inl ⟨by decide, by decide⟩), by decide, hkk _ _ ⟨_, _, rfl, rfl⟩⟩
    · rintro ρ m' ⟨seed, v2, rfl, rfl⟩
      subst h1
      dsimp only
      refine dSeq_k fun k1 h1 => ?_
      walk_at "dl"
      refine ⟨⟨by decide, by decide⟩, ?_⟩
      simp only [rngD0]
      refine forW_nat (fun i ρ m' => ∃ (cells : List Int) (seed : Int) (v4 : Option D), ρ = [some (D.rol (ns.map D.int)), some (.hnd m.M.length), v2, some (.int seed), v4, v5] ∧ m' = ⟨m.M ++ [.lst ((1 :: cells).map D.int)], m.s⟩ ∧ cells.length ≤ 60000 + i) ?_ ?_ ⟨cells, _, _, rfl, rfl, by omega⟩
      · rintro i ki hi hki ρ m' ⟨cells, seed, v4, rfl, rfl, hl⟩
        have hi : i < 150 := hi
        clear h1
        simp only [dgName]
        refine dSeq_k fun k1 h1 => ?_
        walk_at "dl"
        refine ⟨.inr (.inl ⟨by decide, by decide⟩), .inr (.inl ⟨by decide, by decide⟩), by decide, ?_⟩
        subst h1
        walk_at "dl"
        simp only [gx, moL_lst, Option.isSome_some, true_and]
        walk_at "dl"
        refine ⟨⟨by decide, by decide⟩, by decide, by show cells.length + 1 < 16777216; omega, ?_⟩
        rw [st]
        have e1 : ∀ z : Int, (1 :: cells).map D.int ++ [D.int z] = (1 :: (cells ++ [z])).map D.int := fun z => ap (1 :: cells) z
        rw [e1]
        exact hki _ _ ⟨_, _, _, rfl, rfl, by rw [List.length_append, List.length_singleton]; omega⟩
      · rintro ρ m' ⟨cells, seed, v4, rfl, rfl, hl⟩
        subst h1
        walk_at "dl"
        exact q cells
theorem rd_take : ∀ ds m Φ Ψ, ds.length = 2 → C_takeO ds m Φ Ψ → W_take { nx := fun _ m' => Φ .non m', rt := Φ } (fun _ => Ψ) (ds.map some ++ List.replicate (2 - ds.length) none) m := by
  intro ds m Φ Ψ _ h
  obtain ⟨k, j, cells, n, rfl, hn, hn2, hj, hk, q⟩ := h
  change W_take _ _ [some (D.hnd k), some (D.int n)] m
  unfold W_take
  have kl : k < m.M.length := (List.getElem?_eq_some_iff.mp hk).1
  have setk : ∀ x, (m.M.set k x)[k]? = some x := fun x => List.getElem?_set_self kl
  refine dSeq_k fun k1 h1 => ?_
  walk_at "dl"
  simp only [hk, moL_lst]
  rw [List.map_cons]
  refine ⟨_, atI_cons0, ?_⟩
  walk_at "dl"
  by_cases hl : j < ((cells.length + 1 : Nat) : Int)
  · rw [decide_eq_true hl, if_pos rfl]
    simp only [hk, moL_lst, List.map_cons]
    refine ⟨_, atI_cons0, ?_⟩
    walk_at "dl"
    refine ⟨0, ixN0 (by simp), ?_⟩
    walk_at "dl"
    simp only [setk, moL_lst]
    refine ⟨_, atI_cons0, ?_⟩
    walk_at "dl"
    simp only [setk, moL_lst]
    rw [show j + 1 - 1 = j by omega]
    refine ⟨_, atI_gi (xs := (j + 1) :: cells) (by omega) (by rw [List.length_cons]; exact hl), ?_⟩
    walk_at "dl"
    exact ⟨hn, q _ (j + 1) (by omega) (Int.emod_nonneg _ (by omega)) (Int.emod_lt_of_pos _ hn)⟩
  · rw [decide_eq_false hl, if_neg (by decide)]
    subst h1
    walk_at "dl"
    have z := q 0 j hj (by omega) hn
    have e : m.M.set k (.lst ((j :: cells).map D.int)) = m.M := by
      apply List.ext_getElem?
      intro i
      by_cases hi : k = i
      · subst hi; rw [setk]; exact hk.symm
      · rw [List.getElem?_set_ne hi]
    rw [e] at z
    exact z
end Dl

namespace Dl
open PySem L2
/-! ### an own list that will not change any more -/
/-- from here on slot i's list is like a written one -/
def dFrz (i : Nat) (a : DS) : DS := fun N Ψ ρ m => match ρ[i]? with
  | some (some (.hnd k)) => match moL m.M[k]? with
    | some ds => a N Ψ (ρ.set i (some (.lst ds))) ⟨m.M.set k .dead, m.s⟩
    | none => False
  | _ => False
theorem moL_some {o : Option MO} {ds : List D} (h : moL o = some ds) : o = some (.lst ds) := by
  cases o with
  | none => cases h
  | some o =>
    cases o with
    | lst es =>
      have h : some es = some ds := h
      cases h; rfl
    | ins C fs => cases h
    | dead => cases h
theorem js_frz {X : Cx} {E : WX} {st : Stmt} {W : DS} (i : Nat) (h : JS X E st W) : JS X E st (dFrz i W) := PS.imp h fun D σ H ⟨w, ρ, m, Ψ, N, a, n, q⟩ => by
  unfold dFrz at q
  split at q
  · rename_i k e
    split at q
    · rename_i ds em
      obtain ⟨v, e1, A, rfl, eA⟩ := a.s.2 i _ e
      obtain ⟨xs, fa, hx, rr, hf⟩ := a.h.frz eA (moL_some em)
      have l : w.le (w.put A (.lst xs)) := Wd.le_put fa
      have sl : Slots X.K (w.put A (.lst xs)) (σ.set i (some (.ref A))) (ρ.set i (some (.lst ds))) := (a.s.mono l).set i ⟨A, xs, rfl, upd_same, RepAll.mono l _ _ rr⟩
      have es : σ.set i (some (.ref A)) = σ := by
        apply List.ext_getElem?
        intro j
        by_cases hj : i = j
        · subst hj
          rw [List.getElem?_set_self (List.getElem?_eq_some_iff.mp e1).1, e1]
        · rw [List.getElem?_set_ne hj]
      rw [es] at sl
      exact ⟨_, _, _, Ψ, N, ⟨hf, sl, a.x.mono l⟩, n.mono l, q⟩
    · exact q.elim
  · exact q.elim
end Dl

namespace Dl
open PySem L2 PyProof.Rows
/-! ### errors of own classes: made and raised -/
/-- what the written part must say of a class B whose __init__ is ValueError's, called by name -/
structure InitC (K : PySem.W.Frag) (B : Addr) : Prop where
  rd : PySem.W.readsIn K B (.type "type") = true
  ga : PySem.W.specialIn K (.ref B) "__getattribute__" = some (some (.builtin "type.__getattribute__"))
  at_ : PySem.W.findCls K (.ref B) (.type "type") "__init__" = some (.val (.builtin "ValueError.__init__"))
section
variable {X : Cx} {B : Addr} {x : Str} {o e : Expr} {es : List Expr} {ta : TA} {p1 p2 pos : Pos}
theorem pe_binit {pl : Sem Bool} (hg : Gl X x) (hm : X.mg x = some (.ref B)) (T : InitC X.K B) (ha : PA X (e :: es) ta) (hdb : (x == ("__debug__" : Str)) = false := by decide)
    (hc : eval (.Call (.Attribute (.Name x p1) "__init__" p2) (e :: es) [] pos) X.env = (do
      let ov ← eval (.Name x p1) X.env
      standAt p2.atName
      let (f, first) ← holding [ov] (getMethod ov "__init__" pl)
      callWith pos f first (backTo pos (starEach (e :: es) X.env)) (backToKw pos (keywordEach [] X.env))) := by rfl)
    (he : starEach (e :: es) X.env = (false, eval e X.env) :: starEach es X.env := by rfl) (hpl : (backTo pos (starEach es X.env)).any (·.1) = false := by rfl) :
    PE X (.Call (.Attribute (.Name x p1) "__init__" p2) (e :: es) [] pos) (tVeI X.K ta) := by
  constructor
  intro pins s σ H Q I told
  apply PySem.W.methodCall_KW _ hc
  apply ld_glob I hg hm _ hdb
  apply PySem.W.method_cls I.kIn T.ga
  apply PySem.W.cls_value I.kIn T.rd T.at_ (by decide +kernel)
  refine PyProof.Rows.callWith_method1 (wpAny_mono (ha.run pos pins _ σ H _ (I.tok _) told) ?_ fun _ _ z => z) he hpl
  rintro us s1 ⟨vs, H1, I1, rs, a, C, ws, rfl, many, okC, there, go⟩
  match us, rs with
  | u :: ur, .cons ra rr =>
    cases ra
    exact oinit_ok okC I1 there (by rw [← Paired.length rr, sizeLine_eq]; omega) fun s' J => ⟨.non, H1, J, rfl, go⟩
end
/-- the promise of an __init__ that keeps its arguments in the fields fs -/
def spErr (C : Addr) (fs : List Str) : Sp := fun vs H Q _ => ∃ (a : Addr) (ws : List V), vs = .ref a :: ws ∧ ws.length = fs.length ∧ H a = some (exo a C none) ∧
  ∀ dx, H dx = none → dx ≠ a → Q .non (upd (upd H dx (exd dx (fs.zip ws).reverse)) a (exo a C (some dx)))
section
variable {P : Program} {w : World} {K : PySem.W.Frag} {mg : Str → Option Value} {base : Heap}
/-- def __init__(self, y): B.__init__(self, 'text'); self.f = y -/
theorem err_init1 {qual y f t : Str} {st st1 st2 : Stmt} {fI : Addr} {fd : FuncData} {C : Addr} (F : Fun K "__init__" qual st fI fd) (S : FnScope ["self", y] ["self", y] (defScope st)) (hb : defBody st = [st1, st2])
    (g1 : ∀ (cdv : Value) (A : Around) (outer : List PySem.Env) (s : Shared) (H : Hp) (E : XK), PS (cxOf (L2.CX P w) P w K mg base ["self", y] qual (defScope st) fI cdv A outer s H E) st1 (tDrop (tVeI K (tCons (tVar 0) (tCons (tC (.str t)) tNil)))))
    (g2 : ∀ (cdv : Value) (A : Around) (outer : List PySem.Env) (s : Shared) (H : Hp) (E : XK), PS (cxOf (L2.CX P w) P w K mg base ["self", y] qual (defScope st) fI cdv A outer s H E) st2 (tOst K f (tVar 0) (tVar 1)))
    (T2 : OexC K C) (hno : PySem.W.findIn K (.ref C) f = some none) : FnOk P w K mg base (L2.CX P w) 1 fI fd ["self", y] (spErr C [f]) := by
  refine F.okX S (fun vs H Q E ⟨a, ws, e, l, _⟩ => by rw [e, List.length_cons, l]; rfl) fun cdv A outer s H vs Q E hr ⟨a, ws, e, l, ha, q⟩ => ?_
  obtain ⟨v, rfl⟩ : ∃ v, ws = [v] := by
    match ws, l with
    | [v], _ => exact ⟨v, rfl⟩
  rw [hb]
  refine ⟨_, pss_cons (g1 cdv A outer s H E) (pss_one (g2 cdv A outer s H E)), ?_⟩
  subst e
  refine ⟨_, rfl, ⟨a, C, [.str t], rfl, by show 1 ≤ 1000; decide, T2, ha, ?_⟩⟩
  exact ⟨_, rfl, _, rfl, a, C, rfl, T2, hno, .inl ⟨ha, fun dx n ne => q dx n ne⟩⟩
/-- an own error class that can be made -/
structure ErrOk (P : Program) (w : World) (K : PySem.W.Frag) (mg : Str → Option Value) (base : Heap) (c : String) (fs : List String) : Prop where
  mgc : mg (PySem.Str.ofString c) = some (.ref (kcl K c))
  oex : OexC K (kcl K c)
  len : fs.length ≤ 100
  ini : ∃ (fI : Addr) (fd : FuncData) (ps : List Str), PySem.W.findIn K (.ref (kcl K c)) "__init__" = some (some (.ref fI)) ∧ PySem.W.typeIn K (.ref fI) = some (.type "function") ∧ BA fd ps ∧
    FnOk P w K mg base (L2.CX P w) 1 fI fd ps (spErr (kcl K c) (fs.map PySem.Str.ofString))
end
/-- raise C(e, ..): what follows is the wish of the error -/
def dRaise (c : String) (fs : List String) (r : DA) : DS := fun _ Ψ ρ m => r ρ m (fun ds m1 => ds.length = fs.length ∧ Ψ ρ c (fs.zip ds).reverse m1) (Ψ ρ)
theorem RepF.append {K : PySem.W.Frag} {w : Wd} : ∀ {ds es : List (String × D)} {vs us : List (Str × V)}, RepF K w ds vs → RepF K w es us → RepF K w (ds ++ es) (vs ++ us)
  | [], _, _, _, h, g => by
    have q : _ = [] := h
    subst q; exact g
  | (f, d) :: ds, _, _, _, h, g => by
    obtain ⟨v, r, rfl, a, b⟩ := h
    exact ⟨v, _, rfl, a, RepF.append b g⟩
theorem RepF.reverse {K : PySem.W.Frag} {w : Wd} {ds : List (String × D)} {vs : List (Str × V)} (h : RepF K w ds vs) : RepF K w ds.reverse vs.reverse := by
  induction ds generalizing vs with
  | nil =>
    have q : vs = [] := h
    subst q; exact rfl
  | cons d ds ih =>
    obtain ⟨f, d⟩ := d
    obtain ⟨v, r, rfl, a, b⟩ := h
    rw [List.reverse_cons, List.reverse_cons]
    exact RepF.append (ih b) ⟨v, [], rfl, a, rfl⟩
theorem repF_zip {K : PySem.W.Frag} {w : Wd} : ∀ {fs : List String} {ds : List D} {vs : List V}, RepAll K w ds vs → RepF K w (fs.zip ds) ((fs.map PySem.Str.ofString).zip vs)
  | [], _, _, _ => rfl
  | f :: fs, [], vs, r => by
    have e : vs = [] := r
    subst e; exact rfl
  | f :: fs, d :: ds, vs, r => by
    obtain ⟨v, r', rfl, a, b⟩ := r
    exact ⟨v, _, rfl, a, repF_zip b⟩
section
variable {X : Cx} {E : WX} {c : String} {fs : List String} {e : Expr} {es : List Expr} {Ws : DA} {p cpos pos : Pos}
theorem js_raise (hc : X.calm = true) (tk : Takes X E) (G : ErrOk X.prog X.w X.K X.mg X.base c fs) (hg : Gl X (PySem.Str.ofString c)) (hr : Room 2 X.A) (ha : JA X E (e :: es) Ws)
    (hdb : (PySem.Str.ofString c == ("__debug__" : Str)) = false := by decide) (he : starEach (e :: es) X.env = (false, eval e X.env) :: starEach es X.env := by rfl) (hpl : (backTo cpos (starEach es X.env)).any (·.1) = false := by rfl) :
    JS X E (.Raise (some (.Call (.Name (PySem.Str.ofString c) p) (e :: es) [] cpos)) none pos) (dRaise c fs Ws) := by
  obtain ⟨hm, T, hlen, fI, fd, ps, iC, tI, b, F1⟩ := G
  refine PS.imp (ps_raise hc tk (pmk_oex T iC tI F1 hr (Binds.all b) .nil passL hg hm ha hdb he hpl)) fun D σ H ⟨w, ρ, m, Ψ, N, a, n, q⟩ => ?_
  refine ⟨w, ρ, m, Ψ ρ, _, a.at, ?_, q⟩
  intro ds m1 w1 H1 vs l1 h1 r1 ⟨hl, q1⟩
  have hvl : vs.length = fs.length := r1.length.trans hl
  refine ⟨by show vs.length ≤ 1000; omega, fun b hb0 => ⟨b, vs, by rw [List.append_nil], by rw [List.length_map]; exact hvl, upd_same, fun dx hdx hne => ⟨rfl, dx, ((fs.map PySem.Str.ofString).zip vs).reverse, upd_same, ?_, ?_, ?_⟩⟩⟩
  · rw [upd_ne hne, upd_same]
  · rw [upd_ne hne] at hdx
    exact hdx
  · have hd1 : H1 dx = none := by rw [upd_ne hne] at hdx; exact hdx
    have eh : upd (del (upd (upd (upd H1 b (exo b (kcl X.K c) none)) dx (exd dx ((fs.map PySem.Str.ofString).zip vs).reverse)) b (exo b (kcl X.K c) (some dx))) b) dx (.xd ((fs.map PySem.Str.ofString).zip vs).reverse) = upd H1 dx (.xd ((fs.map PySem.Str.ofString).zip vs).reverse) := by
      funext z
      by_cases z1 : z = dx
      · rw [z1, upd_same, upd_same]
      · rw [upd_ne z1, upd_ne z1]
        by_cases z2 : z = b
        · rw [z2, del_same, hb0]
        · rw [del_ne z2, upd_ne z2, upd_ne z1, upd_ne z2]
    rw [eh]
    have lw : w1.le (w1.put dx (.xd ((fs.map PySem.Str.ofString).zip vs).reverse)) := Wd.le_put (h1.nof hd1)
    exact a.x ρ σ w (.refl w) a.s c (fs.zip ds).reverse m1 _ _ dx _ (l1.trans lw) (h1.put hd1) upd_same (RepF.reverse (repF_zip (RepAll.mono lw _ _ r1))) q1
end

/-! ### try .. except B as n -/
/-- L tells of each class whether the clause takes it -/
def dTryAs (i : Nat) (L : List (String × Bool)) (body : DS) (su : Addr → Addr → String → DS) : DS := fun N Ψ ρ m =>
  body N (fun ρ' c fs m' => match L.lookup c with
    | some true => ∀ a d, su a d c { nx := fun ρ2 m2 => N.nx (ρ2.set i none) m2, rt := N.rt, bk := fun ρ2 m2 => N.bk (ρ2.set i none) m2, ct := fun ρ2 m2 => N.ct (ρ2.set i none) m2 } (fun _ => XF) (ρ'.set i (some (.exc a d c fs))) m'
    | some false => Ψ ρ' c fs m'
    | none => False) ρ m
section
variable {X : Cx} {E : WX} {B : String} {L : List (String × Bool)} {n : Str} {body suite : List Stmt} {b₀ : Stmt} {np pos pos' : Pos} {t : DS} {su : Addr → Addr → String → DS}
end
/-! in the suite -/
/-- e.f -/
def dXf (a d : Addr) (f : String) (o : DE) : DE := fun ρ m Φ Ψ => o ρ m (fun x m1 => match x with
  | .exc a' d' _ fs => a' = a ∧ d' = d ∧ ∃ v, fs.lookup f = some v ∧ Φ v m1
  | _ => False) Ψ
section
variable {X : Cx} {a d : Addr} {oe : Obj} {c : String} {pn : List (Addr × Obj)} {o : Expr} {W : DE} {f : String} {pos : Pos}
/-- isinstance(e, B) of the caught error -/
def dIsE (a d : Addr) (L : List (String × Bool)) (B : String) (c : String) (o : DE) : DE := fun ρ m Φ Ψ => o ρ m (fun x m1 => match x with
  | .exc a' d' _ _ => a' = a ∧ d' = d ∧ ∃ b, L.lookup c = some b ∧ Φ (.bl b) m1
  | _ => False) Ψ
end

/-! ### what the top must say of the classes -/
def Hnos (K : PySem.W.Frag) (C : Addr) (fs : List String) : Prop := ∀ f ∈ fs, PySem.W.findIn K (.ref C) (PySem.Str.ofString f) = some none
theorem hnos_nil {K : PySem.W.Frag} {C : Addr} : Hnos K C [] := fun f h => by cases h
theorem hnos_cons {K : PySem.W.Frag} {C : Addr} {f : String} {fs : List String} (h : PySem.W.findIn K (.ref C) (PySem.Str.ofString f) = some none) (r : Hnos K C fs) : Hnos K C (f :: fs) := fun g hg => by
  rcases List.mem_cons.mp hg with e | e
  · subst e; exact h
  · exact r g e
structure ErrT (K : PySem.W.Frag) (mg : Str → Option Value) (c : String) (q : Str) (st : Stmt) (ps : List Str) (fs : List String) : Prop where
  mgc : mg (PySem.Str.ofString c) = some (.ref (kcl K c))
  oex : OexC K (kcl K c)
  hno : Hnos K (kcl K c) fs
  ini : ∃ (fI : Addr) (fd : FuncData), PySem.W.findIn K (.ref (kcl K c)) "__init__" = some (some (.ref fI)) ∧ PySem.W.typeIn K (.ref fI) = some (.type "function") ∧ Fun K "__init__" q st fI fd ∧ BA fd ps
theorem errT_mk {K : PySem.W.Frag} {h : Heap} {mg : Str → Option Value} {c : String} {q : Str} {st : Stmt} {ps : List Str} {fs : List String} {C fI : Addr} {od an : Option Addr} {sl : Array (Option Value)} {oc kV dc pm cd ct : Value}
    {nm qq N bs bm sn sub ab col dd k0 k1 k2 k3 k5} (X : K.In h) (G : h.Ns mainGlobals mg)
    (a : PySem.W.nsIn K mainGlobals (PySem.Str.ofString c) = some (some (.ref C)))
    (c1 : K.lookup C = some (excClassObj nm qq C N bs bm true sn sub ab col dd k0 k1 k2 k3 k5 "ValueError.__new__")) (c2 : PySem.HandSPX.refsVE bm = true)
    (c3 : PySem.W.findIn K (.ref C) "__setattr__" = some (some (.builtin "object.__setattr__"))) (c4 : PySem.W.subIn K (.ref C) (.type "BaseException") = some true)
    (c5 : PySem.W.typeIn K (.ref C) = some (.type "type")) (c6 : PySem.W.keepIn K (.ref C) = true) (hno : Hnos K C fs)
    (i1 : PySem.W.findIn K (.ref C) "__init__" = some (some (.ref fI))) (i2 : PySem.W.typeIn K (.ref fI) = some (.type "function"))
    (l : K.lookup fI = some ⟨oc, od, .func (PySem.W.fnOf "__init__" q (defArgs st) (defBody st) (defScope st) .none kV dc pm an cd ct), sl⟩) (cc : PySem.W.codeIn K cd q = true) (k : PySem.W.keepIn K (.ref fI) = true)
    (b : ∀ (kV doc pm : Value) (an : Option Addr) (cdv ct : Value) (us : List Value), us.length = ps.length → bindArgs (PySem.W.fnOf "__init__" q (defArgs st) (defBody st) (defScope st) .none kV doc pm an cdv ct) ⟨us, []⟩ = pure (ps.zip us)) : ErrT K mg c q st ps fs := by
  have e := kcl_of a
  refine ⟨?_, ?_, ?_, fI, _, ?_, i2, fun_mk l cc k, b kV dc pm an cd ct⟩
  · rw [e]; exact PySem.W.mg_of X G a
  · rw [e]; exact ⟨⟨nm, qq, N, bs, bm, sn, sub, ab, col, dd, k0, k1, k2, k3, k5, c1, c2⟩, c3, c4, c5, c6⟩
  · rw [e]; exact hno
  · rw [e]; exact i1
structure InitB (K : PySem.W.Frag) (mg : Str → Option Value) (b : String) : Prop where
  mgb : mg (PySem.Str.ofString b) = some (.ref (kcl K b))
  ini : InitC K (kcl K b)
theorem initB_mk {K : PySem.W.Frag} {h : Heap} {mg : Str → Option Value} {c : String} {C : Addr} (X : K.In h) (G : h.Ns mainGlobals mg) (a : PySem.W.nsIn K mainGlobals (PySem.Str.ofString c) = some (some (.ref C)))
    (rd : PySem.W.readsIn K C (.type "type") = true) (ga : PySem.W.specialIn K (.ref C) "__getattribute__" = some (some (.builtin "type.__getattribute__"))) (at_ : PySem.W.findCls K (.ref C) (.type "type") "__init__" = some (.val (.builtin "ValueError.__init__"))) : InitB K mg c := by
  have e := kcl_of a
  refine ⟨?_, ?_⟩
  · rw [e]; exact PySem.W.mg_of X G a
  · rw [e]; exact ⟨rd, ga, at_⟩
theorem kI_mk {K : PySem.W.Frag} {h : Heap} {mg : Str → Option Value} {x : Str} {v : Value} {i : Int} {t : Tok} (X : K.In h) (G : h.Ns mainGlobals mg) (z : PySem.W.nsIn K mainGlobals x = some (some v)) (e : v = .int i t) : ∃ t, mg x = some (.int i t) := ⟨t, by rw [← e]; exact PySem.W.mg_of X G z⟩
theorem je_globE {X : Cx} {E : WX} {x : Str} {i : Int} {pos : Pos} (hg : Gl X x) (hm : ∃ t, X.mg x = some (.int i t)) (hd : (x == ("__debug__" : Str)) = false := by decide) : JE X E (.Name x pos) (dC (.int i)) := by
  obtain ⟨t, hm⟩ := hm
  exact je_globI hg hm hd
theorem dRaise_one {c f : String} {a : DE} {N : DN} {Ψ : XS} {ρ : Dl.Env} {m : MM} : dRaise c [f] (dCons a dNil) N Ψ ρ m = a ρ m (fun x m1 => Ψ ρ c [(f, x)] m1) (Ψ ρ) := by
  simp [dRaise, dCons, dNil]
theorem dRaise_two {c f g : String} {a b : DE} {N : DN} {Ψ : XS} {ρ : Dl.Env} {m : MM} : dRaise c [f, g] (dCons a (dCons b dNil)) N Ψ ρ m = a ρ m (fun x m1 => b ρ m1 (fun y m2 => Ψ ρ c [(g, y), (f, x)] m2) (Ψ ρ)) (Ψ ρ) := by
  simp [dRaise, dCons, dNil]
theorem okE_int {n : Nat} {i : Int} : okE n (.int i) = true := rfl
theorem okE_bl {n : Nat} {b : Bool} : okE n (.bl b) = true := rfl
theorem okE_non {n : Nat} : okE n .non = true := rfl
end Dl

namespace Dl
open PySem L2 PyProof.Rows
/-! ### max, min of a list -/
def cMaxL : DCB := fun ds m Φ => match ds with
  | [d] => match asL m d with
    | some xs => ∃ ns, intsD xs = some ns ∧ 0 < ns.length ∧ ∀ k, k ∈ ns → (∀ y, y ∈ ns → y ≤ k) → Φ (.int k) m
    | none => False
  | _ => False
theorem cbl_maxL {K : PySem.W.Frag} : CbL K (rMax K) cMaxL := fun w m H ds vs Q Φ h r vl q => by
  unfold cMaxL at q
  split at q
  · obtain ⟨v, rfl, rv⟩ := rep1 r
    split at q
    · rename_i e
      obtain ⟨ns, e2, e3, q⟩ := q
      obtain ⟨a, us, rfl, ha, ra⟩ := asL_ok h e rv
      exact ⟨a, ns, rfl, by rw [← ints_ok e2 ra]; exact ha, e3, fun k hk hy => vl.int h (q k hk hy)⟩
    · exact q.elim
  · exact q.elim
def cMinL : DCB := fun ds m Φ => match ds with
  | [d] => match asL m d with
    | some xs => ∃ ns, intsD xs = some ns ∧ 0 < ns.length ∧ ∀ k, k ∈ ns → (∀ y, y ∈ ns → k ≤ y) → Φ (.int k) m
    | none => False
  | _ => False
/-! ### shifts -/
def oShr : DO := oI (fun _ j => 0 ≤ j) fun i j => i / 2 ^ j.toNat
theorem opl_shr {K : PySem.W.Frag} : OpL K (rI (fun _ j => 0 ≤ j) fun i j => .int (i / 2 ^ j.toNat)) oShr := opl_I fun _ _ h => h
/-! ### xs.extend(ys) -/
def oExt : D → List D → MM → (D → MM → Prop) → Prop := fun x ds m Φ => match x, ds with
  | .hnd k, [y] => match moL m.M[k]?, asK m y with
    | some xs, some ys => xs.length + ys.length ≤ LIM ∧ Φ .non ⟨m.M.set k (.lst (xs ++ ys)), m.s⟩
    | _, _ => False
  | _, _ => False
theorem mtl_ext {K : PySem.W.Frag} : MtL K rExtend oExt := fun w m H x ds u vs Q Φ h r rs vl q => by
  unfold oExt at q
  split at q
  · split at q
    · rename_i k y _ _ xs ys e ey
      obtain ⟨a, rfl, q2⟩ := r
      obtain ⟨v, rfl, rv⟩ := rep1 rs
      obtain ⟨us, hx, ru⟩ := h.obj k a _ q2 (moL_eq e)
      obtain ⟨b, zs, rfl, hb, rb⟩ := asK_ok h ey rv
      exact ⟨a, b, us, zs, rfl, rfl, hx, hb, lim_sz (by rw [ru.length, rb.length]; exact q.1), vl.wr (ds' := xs ++ ys) (d := .non) h q2 (moL_eq e) (ru.append rb) rfl q.2⟩
    · exact q.elim
  · exact q.elim
/-! ### in, not in -/
def memD (x : D) (ys : List D) : Bool := ys.any fun y => eqD y x
def oInL (neg : Bool) : DO := fun x y m Φ => match y with
  | .lst ys => okE 64 x = true ∧ okE 64 (.lst ys) = true ∧ Φ (.bl (if neg then !memD x ys else memD x ys)) m
  | .rol ys => okE 64 x = true ∧ okE 64 (.rol ys) = true ∧ Φ (.bl (if neg then !memD x ys else memD x ys)) m
  | _ => False
theorem toPys_any {x : D} : ∀ ys : List D, ((toPys ys).any fun z => PyData.eqv z (toPy x)) = memD x ys
  | [] => rfl
  | y :: ys => by
    show (PyData.eqv (toPy y) (toPy x) || (toPys ys).any _) = (eqD y x || memD x ys)
    rw [toPys_any ys]; rfl
theorem opl_in {K : PySem.W.Frag} : OpL K (rInD K) (oInL false) := fun w m H x y u v Q Φ h r1 r2 vl q => by
  unfold oInL at q
  split at q
  · rename_i ys
    obtain ⟨o1, o2, q⟩ := q
    exact ⟨_, toPys ys, dp_of h x u 64 r1 o1, dp_of h (.lst ys) v 64 r2 o2, okE_shaped o1, okE_shaped (d := .lst ys) o2, by rw [toPys_any]; exact vl.bl h q⟩
  · rename_i ys
    obtain ⟨o1, o2, q⟩ := q
    exact ⟨_, toPys ys, dp_of h x u 64 r1 o1, dp_of h (.rol ys) v 64 r2 o2, okE_shaped o1, okE_shaped (d := .rol ys) o2, by rw [toPys_any]; exact vl.bl h q⟩
  · exact q.elim
/-! ### is True, is False -/
def oIsB : DO := fun x y m Φ => match x, y with
  | .bl a, .bl b => Φ (.bl (decide (a = b))) m
  | _, _ => False
def oNotB : DO := fun x y m Φ => match x, y with
  | .bl a, .bl b => Φ (.bl (!decide (a = b))) m
  | _, _ => False
/-! ### any -/
def blsD : List D → Option (List Bool)
  | [] => some []
  | .bl b :: r => (blsD r).map (b :: ·)
  | _ => none
theorem bls_ok {K : PySem.W.Frag} {w : Wd} : ∀ {ds : List D} {vs : List V} {bs : List Bool}, blsD ds = some bs → RepAll K w ds vs → vs = bs.map V.bl
  | [], vs, bs, e, r => by cases e; exact r
  | d :: ds, vs, bs, e, r => by
    obtain ⟨v, r', rfl, rv, rr⟩ := r
    cases d with
    | bl i =>
      have e : (blsD ds).map (i :: ·) = some bs := e
      cases q : blsD ds with
      | none => rw [q] at e; cases e
      | some ns' =>
        rw [q] at e; cases e
        cases (show v = V.bl i from rv)
        rw [bls_ok q rr]; rfl
    | _ => cases e
theorem bls_map : ∀ (ns : List Bool), blsD (ns.map D.bl) = some ns
  | [] => rfl
  | n :: ns => by
    show (blsD (ns.map D.bl)).map (n :: ·) = _
    rw [bls_map ns]; rfl
def cAny : DCB := fun ds m Φ => match ds with
  | [d] => match asL m d with
    | some xs => ∃ bs, blsD xs = some bs ∧ Φ (.bl (bs.any id)) m
    | none => False
  | _ => False
/-! ### xs[::-1] -/
def dRevL (a : DE) : DE := fun ρ m Φ Ψ => a ρ m (fun d m1 => match asL m1 d with
  | some ds => Φ (.lst ds.reverse) m1
  | none => False) Ψ
section
variable {X : Cx} {E : WX} {a : Expr} {Wa : DE} {pos : Pos}
theorem je_revL {k p1 p2 p3} (ha : JE X E a Wa) : JE X E (.Subscript a (.Slice none none (some (.UnaryOp .USub (.Constant (.int 1) k p1) p2)) p3) pos) (dRevL Wa) := PE.imp (pe_revL ha) fun σ H Q ⟨w, ρ, m, Ψ, Φ, a, vl, h⟩ => by
  refine ⟨w, ρ, m, Ψ, _, a, fun d m1 w1 H1 v l1 h1 r1 q1 => ?_, h⟩
  split at q1
  · rename_i ds e
    obtain ⟨a, us, rfl, ha, ra⟩ := asL_ok h1 e r1
    exact ⟨a, us, rfl, ha, fun p hp => (vl.mono l1).newL h1 hp ra.reverse q1⟩
  · exact q1.elim
end
/-! ### a comprehension over two walks -/
section
variable {X : Cx} {E : WX}
end
end Dl

namespace Dl
open PySem L2 PyProof.Rows
/-! ### objects of own classes -/
def moI : Option MO → Option (String × List (String × D))
  | some (.ins c fs) => some (c, fs)
  | _ => none
theorem moI_eq {o : Option MO} {c : String} {fs : List (String × D)} (h : moI o = some (c, fs)) : o = some (.ins c fs) := by
  cases o with
  | none => cases h
  | some o =>
    cases o with
    | ins d gs => cases h; rfl
    | _ => cases h
theorem moI_ins {c : String} {fs : List (String × D)} : moI (some (.ins c fs)) = some (c, fs) := rfl
/-- what the written part says of the classes cs and a field's name f -/
def FldT (K : PySem.W.Frag) (cs : List String) (f : String) : Prop := ∀ c, cs.contains c = true → Cls K (kcl K c) ∧ NoAttr K (kcl K c) (PySem.Str.ofString f)
theorem fldT_nil {K : PySem.W.Frag} {f : String} : FldT K [] f := fun c h => by cases h
theorem fldT_cons {K : PySem.W.Frag} {c f : String} {cs : List String} {C : Addr} (e : PySem.W.nsIn K mainGlobals (PySem.Str.ofString c) = some (some (.ref C))) (k1 : PySem.W.plainGet K C Str.empty = true) (k2 : PySem.W.hasDictIn K C = true) (k3 : PySem.W.plainOver K C = true)
    (k4 : PySem.W.findIn K (.ref C) "__setattr__" = some (some (.builtin "object.__setattr__"))) (k5 : PySem.W.findIn K (.ref C) (PySem.Str.ofString f) = some none) (r : FldT K cs f) : FldT K (c :: cs) f := fun c' h => by
  rw [List.contains_cons] at h
  cases q : c' == c with
  | true =>
    have z := beq_iff_eq.mp q
    subst z
    rw [kcl_of e]
    exact ⟨⟨k1, k2, k3, k4⟩, k5⟩
  | false =>
    rw [q, Bool.false_or] at h
    exact r c' h
/-- o.f -/
def dFld (cs : List String) (f : String) (o : DE) : DE := fun ρ m Φ Ψ => o ρ m (fun x m1 => match x with
  | .hnd k => match moI m1.M[k]? with
    | some (c, fs) => cs.contains c = true ∧ ∃ v, fs.lookup f = some v ∧ Φ v m1
    | none => False
  | _ => False) Ψ
section
variable {X : Cx} {E : WX} {o e : Expr} {Wo We : DE} {f : String} {cs : List String} {pos p' tpos : Pos}
theorem je_fld (T : FldT X.K cs f) (ho : JE X E o Wo) (hb : attributeBase o (PySem.Str.ofString f) X.env (eval o X.env) = eval o X.env := by rfl) : JE X E (.Attribute o (PySem.Str.ofString f) pos) (dFld cs f Wo) :=
  PE.imp (pe_fld ho hb) fun σ H Q ⟨w, ρ, m, Ψ, Φ, a, vl, h⟩ => by
  refine ⟨w, ρ, m, Ψ, _, a, fun x m1 w1 H1 v l1 h1 r1 q1 => ?_, h⟩
  split at q1
  · rename_i k
    split at q1
    · rename_i c fs e
      obtain ⟨hc, y, hy, q1⟩ := q1
      obtain ⟨b, rfl, eb⟩ := r1
      obtain ⟨dx, vs, hx, rf⟩ := h1.obj k b _ eb (moI_eq e)
      obtain ⟨u, hu, ru⟩ := rf.look hy
      obtain ⟨t1, t2⟩ := T c hc
      exact ⟨b, kcl X.K c, dx, vs, u, rfl, hx, t1, t2, hu, vl y m1 w1 H1 u l1 h1 ru q1⟩
    · exact q1.elim
  · exact q1.elim
/-- o.f = e -/
def dSetF (cs : List String) (f : String) (e o : DE) : DS := fun N Ψ ρ m => e ρ m (fun v m1 => o ρ m1 (fun x m2 => match x with
  | .hnd k => match moI m2.M[k]? with
    | some (c, fs) => cs.contains c = true ∧ fs.length < 1000 ∧ N.nx ρ ⟨m2.M.set k (.ins c (putD f v fs)), m2.s⟩
    | none => False
  | _ => False) (Ψ ρ)) (Ψ ρ)
theorem js_fld (T : FldT X.K cs f) (ho : JE X E o Wo) (he : JE X E e We) (hs : swapsWith e (some (.Attribute o (PySem.Str.ofString f) p')) pos.line X.env = pure false := by rfl) : JS X E (.Assign [.Attribute o (PySem.Str.ofString f) p'] e pos) (dSetF cs f We Wo) :=
  PS.imp (ps_fld ho he hs) fun D σ H ⟨w, ρ, m, Ψ, N, a, n, h⟩ => by
  refine ⟨w, ρ, m, Ψ ρ, _, a.at, fun d m1 w1 H1 v l1 h1 r1 q1 => ?_, h⟩
  refine ⟨w1, ρ, m1, Ψ ρ, _, (a.to l1 h1).at, fun x m2 w2 H2 u l2 h2 r2 q2 => ?_, q1⟩
  split at q2
  · rename_i k
    split at q2
    · rename_i c fs e
      obtain ⟨hc, hlen, q2⟩ := q2
      obtain ⟨b, rfl, eb⟩ := r2
      obtain ⟨dx, vs, hx, rf⟩ := h2.obj k b _ eb (moI_eq e)
      obtain ⟨t1, t2⟩ := T c hc
      refine ⟨b, kcl X.K c, dx, vs, rfl, hx, t1, t2, by rw [rf.length]; exact hlen, ?_⟩
      have l12 := l1.trans l2
      exact n.nx ρ _ w2 _ σ l12 (h2.wr (o' := .ins c (putD f d fs)) eb (moI_eq e) (fun z => by cases z) ⟨dx, _, upd_same, RepF.put (Rep.mono l2 _ _ r1) rf⟩) (a.s.mono l12) q2
    · exact q2.elim
  · exact q2.elim
/-- o.f += e, of ints -/
def dAugF (cs : List String) (f : String) (g : Int → Int → Int) (e o : DE) : DS := fun N Ψ ρ m => o ρ m (fun x m1 => match x with
  | .hnd k => match moI m1.M[k]? with
    | some (c, fs) => cs.contains c = true ∧ ∃ i, fs.lookup f = some (.int i) ∧ e ρ m1 (fun y m2 => match y, moI m2.M[k]? with
      | .int j, some (c', fs') => c' = c ∧ fs'.length < 1000 ∧ N.nx ρ ⟨m2.M.set k (.ins c (putD f (.int (g i j)) fs')), m2.s⟩
      | _, _ => False) (Ψ ρ)
    | none => False
  | _ => False) (Ψ ρ)
theorem js_augF {op : Operator} {g : Int → Int → Int} {rd : V → V → Hp → VK → Prop} (hop : InOp X op rd) (hrd : ∀ i j H Q, Q (.int (g i j)) H → rd (.int i) (.int j) H Q) (T : FldT X.K cs f) (ho : JE X E o Wo) (he : JE X E e We) :
    JS X E (.AugAssign (.Attribute o (PySem.Str.ofString f) tpos) op e pos) (dAugF cs f g We Wo) := PS.imp (ps_fldaug ho he hop) fun D σ H ⟨w, ρ, m, Ψ, N, a, n, h⟩ => by
  refine ⟨w, ρ, m, Ψ ρ, _, a.at, fun x m1 w1 H1 u l1 h1 r1 q1 => ?_, h⟩
  split at q1
  · rename_i k
    split at q1
    · rename_i c fs e
      obtain ⟨hc, i, hi, q1⟩ := q1
      obtain ⟨b, rfl, eb⟩ := r1
      obtain ⟨dx, vs, hx, rf⟩ := h1.obj k b _ eb (moI_eq e)
      obtain ⟨u, hu, ru⟩ := rf.look hi
      cases (show u = V.int i from ru)
      obtain ⟨t1, t2⟩ := T c hc
      refine ⟨b, kcl X.K c, dx, vs, _, rfl, hx, t1, t2, hu, w1, ρ, m1, Ψ ρ, _, (a.to l1 h1).at, fun y m2 w2 H2 v l2 h2 r2 q2 => ?_, q1⟩
      split at q2
      · rename_i j c' fs' e2
        obtain ⟨rfl, hlen, q2⟩ := q2
        cases (show v = V.int j from r2)
        have eb2 := l2.th _ _ eb
        obtain ⟨dx', vs', hx', rf'⟩ := h2.obj k b _ eb2 (moI_eq e2)
        refine hrd _ _ _ _ ⟨dx', vs', hx', by rw [rf'.length]; exact hlen, ?_⟩
        have l12 := l1.trans l2
        exact n.nx ρ _ w2 _ σ l12 (h2.wr (o' := .ins c' (putD f (.int (g i j)) fs')) eb2 (moI_eq e2) (fun z => by cases z) ⟨dx', _, upd_same, RepF.put (d := .int (g i j)) rfl rf'⟩) (a.s.mono l12) q2
      · exact q2.elim
    · exact q1.elim
  · exact q1.elim
theorem rAdd_ok (i j : Int) (H : Hp) (Q : VK) (q : Q (.int (i + j)) H) : L2.rAdd (.int i) (.int j) H Q := ⟨i, j, rfl, rfl, q⟩
end
/-! ### methods -/
/-- a method of the class c keeps its worth -/
def OkM (P : Program) (w : World) (K : PySem.W.Frag) (base : Heap) (mg : Str → Option Value) (c : String) (mn : String) (lv : Nat) (ps : List Str) (C : DC) : Prop :=
  ∃ f fd, Cls K (kcl K c) ∧ Meth K (kcl K c) (PySem.Str.ofString mn) f ∧ BA fd ps ∧ FnOk P w K mg base (L2.CX P w) lv f fd ps (spOf K ps.length C)
def OkMs (P : Program) (w : World) (K : PySem.W.Frag) (base : Heap) (mg : Str → Option Value) (mn : String) (lv n : Nat) (tab : List (String × DC)) : Prop :=
  ∀ c C, tab.lookup c = some C → ∃ ps, ps.length = n + 1 ∧ OkM P w K base mg c mn lv ps C
section
variable {P : Program} {w : World} {K : PySem.W.Frag} {base : Heap} {mg : Str → Option Value} {mn : String} {lv n : Nat}
theorem okMs_nil : OkMs P w K base mg mn lv n [] := fun c C h => by cases h
theorem OkM.mono {c : String} {lv' : Nat} {ps : List Str} {C : DC} (h : OkM P w K base mg c mn lv ps C) (l : lv ≤ lv') : OkM P w K base mg c mn lv' ps C := by
  obtain ⟨f, fd, a, b, c, d⟩ := h
  exact ⟨f, fd, a, b, c, d.mono l⟩
theorem okMs_cons {c : String} {lv' : Nat} {ps : List Str} {C : DC} {tab : List (String × DC)} (h : OkM P w K base mg c mn lv' ps C) (hn : ps.length = n + 1) (l : lv' ≤ lv) (r : OkMs P w K base mg mn lv n tab) : OkMs P w K base mg mn lv n ((c, C) :: tab) := fun c' C' e => by
  rw [List.lookup_cons] at e
  cases q : c' == c with
  | true =>
    rw [q] at e
    cases e
    have z := beq_iff_eq.mp q
    subst z
    exact ⟨ps, hn, h.mono l⟩
  | false => rw [q] at e; exact r c' C' e
end
def tMethD (X : Cx) (mn : Str) (E : WX) (ta : TE) (t : TA) : TE := fun σ H Q => ta σ H fun x H1 => ∃ (a C dx : Addr) (fs : List (Str × V)) (f : Addr) (fd : FuncData) (ps : List Str) (sp : Sp) (k : Nat), x = .ref a ∧ H1 a = some (.ins C dx fs) ∧ fs.lookup mn = none ∧
  Cls X.K C ∧ Meth X.K C mn f ∧ FnOk X.prog X.w X.K X.mg X.base (L2.CX X.prog X.w) k f fd ps sp ∧ Room k X.A ∧ BA fd ps ∧ t σ H1 fun vs H2 => sp (x :: vs) H2 Q (WE E σ)
section
variable {X : Cx} {E : WX} {o e : Expr} {es : List Expr} {ta : TE} {t : TA} {mn : Str} {apos pos : Pos}
theorem pe_methD {pl : Sem Bool} (tk : Takes X E) (he : PE X o ta) (ha : PA X (e :: es) t)
    (hst : starEach (e :: es) X.env = (false, eval e X.env) :: starEach es X.env := by rfl) (hpl : (backTo pos (starEach es X.env)).any (·.1) = false := by rfl)
    (ht : eval (.Call (.Attribute o mn apos) (e :: es) [] pos) X.env = (do
      let ov ← eval o X.env
      standAt apos.atName
      let (f, first) ← holding [ov] (getMethod ov mn pl)
      callWith pos f first (backTo pos (starEach (e :: es) X.env)) (backToKw pos (keywordEach [] X.env))) := by rfl) :
    PE X (.Call (.Attribute o mn apos) (e :: es) [] pos) (tMethD X mn E ta t) := by
  refine ⟨fun pins s σ H Q I h => ?_⟩
  refine PySem.W.methodCall_KW (pl := pl) (thn (he.run pins s σ H _ I h) fun u s1 ⟨x, H1, I1, rx, a, C, dx, fs, f, fd, ps, sp, k, ex, ea, l, c, hm, F, hr, hb, q⟩ => ?_) ht
  subst ex
  obtain rfl : u = Value.ref a := rx
  refine getmeth_ok I1 ea c hm l ?_
  refine PySem.W.callWith_K (first := [.ref a]) (h₀ := X.base) I.ok.mod.kin hm.kp (thn (ha.run pos pins s1 σ H1 _ I1 q) fun us s2 ⟨vs, H2, I2, r, q2⟩ => ⟨I2.kIn, ?_⟩) hst hpl
  exact run_fnSD (us := .ref a :: us) (vs := .ref a :: vs) F hr (Binds.all hb) .nil (passAt tk σ) I2 (.cons rfl r) (by rw [List.append_nil]; exact q2)
theorem pe_methD0 {pl : Sem Bool} (tk : Takes X E) (he : PE X o ta)
    (ht : eval (.Call (.Attribute o mn apos) [] [] pos) X.env = (do
      let ov ← eval o X.env
      standAt apos.atName
      let (f, first) ← holding [ov] (getMethod ov mn pl)
      callWith pos f first (backTo pos (starEach [] X.env)) (backToKw pos (keywordEach [] X.env))) := by rfl) :
    PE X (.Call (.Attribute o mn apos) [] [] pos) (tMethD X mn E ta tNil) := by
  refine ⟨fun pins s σ H Q I h => ?_⟩
  refine PySem.W.methodCall_KW (pl := pl) (thn (he.run pins s σ H _ I h) fun u s1 ⟨x, H1, I1, rx, a, C, dx, fs, f, fd, ps, sp, k, ex, ea, l, c, hm, F, hr, hb, q⟩ => ?_) ht
  subst ex
  obtain rfl : u = Value.ref a := rx
  refine getmeth_ok I1 ea c hm l ?_
  exact PySem.W.callWith_K0 (first := [.ref a]) I1.kIn hm.kp (run_fnSD (us := [.ref a]) (vs := [.ref a]) F hr (Binds.all hb) .nil (passAt tk σ) I1 (.cons rfl .nil) q)
end
/-- o.m(..): tab tells each class's worth -/
def dMeth (tab : List (String × DC)) (mn : String) (n : Nat) (o : DE) (r : DA) : DE := fun ρ m Φ Ψ => o ρ m (fun x m1 => match x with
  | .hnd k => match moI m1.M[k]? with
    | some (c, fs) => match tab.lookup c with
      | some C => fs.lookup mn = none ∧ r ρ m1 (fun ds m2 => ds.length = n ∧ C (.hnd k :: ds) m2 Φ Ψ) Ψ
      | none => False
    | none => False
  | _ => False) Ψ
section
variable {X : Cx} {E : WX} {o e : Expr} {es : List Expr} {Wo : DE} {Ws : DA} {mn : String} {apos pos : Pos} {tab : List (String × DC)} {lv n : Nat}
theorem meth_ok {ta : TE} {t : TA} {σ : L2.St} {H : Hp} {Q : VK} (M : OkMs X.prog X.w X.K X.base X.mg mn lv n tab) (hr : Room lv X.A) (h : lift X.K E (dMeth tab mn n Wo Ws) σ H Q) : tMethD X (PySem.Str.ofString mn) E (lift X.K E Wo) (liftA X.K E Ws) σ H Q := by
  obtain ⟨w, ρ, m, Ψ, Φ, a, vl, h⟩ := h
  refine ⟨w, ρ, m, Ψ, _, a, fun x m1 w1 H1 v l1 h1 r1 q1 => ?_, h⟩
  split at q1
  · rename_i k
    split at q1
    · rename_i c fs e
      split at q1
      · rename_i C eC
        obtain ⟨hno, q1⟩ := q1
        obtain ⟨ps, hps, f, fd, c1, c2, b, F⟩ := M c C eC
        obtain ⟨b0, rfl, eb⟩ := r1
        obtain ⟨dx, vs, hx, rf⟩ := h1.obj k b0 _ eb (moI_eq e)
        refine ⟨b0, kcl X.K c, dx, vs, f, fd, ps, _, lv, rfl, hx, rf.none hno, c1, c2, F, hr, b, w1, ρ, m1, Ψ, _, a.to l1 h1, fun ds m2 w2 H2 us l2 h2 r2 q2 => ?_, q1⟩
        obtain ⟨hn, q2⟩ := q2
        have z := call_ok (X := X) (C := C) (n := ps.length) (ds := .hnd k :: ds) (vs := .ref b0 :: us) ((a.to l1 h1).to l2 h2) (vl.mono (l1.trans l2)) ⟨_, _, rfl, ⟨b0, rfl, l2.th _ _ eb⟩, r2⟩ (by rw [List.length_cons, hn, hps]) q2
        rw [List.append_nil] at z
        exact z
      · exact q1.elim
    · exact q1.elim
  · exact q1.elim
theorem je_meth {pl : Sem Bool} (M : OkMs X.prog X.w X.K X.base X.mg mn lv n tab) (tk : Takes X E) (hr : Room lv X.A) (ho : JE X E o Wo) (ha : JA X E (e :: es) Ws)
    (hst : starEach (e :: es) X.env = (false, eval e X.env) :: starEach es X.env := by rfl) (hpl : (backTo pos (starEach es X.env)).any (·.1) = false := by rfl)
    (ht : eval (.Call (.Attribute o (PySem.Str.ofString mn) apos) (e :: es) [] pos) X.env = (do
      let ov ← eval o X.env
      standAt apos.atName
      let (f, first) ← holding [ov] (getMethod ov (PySem.Str.ofString mn) pl)
      callWith pos f first (backTo pos (starEach (e :: es) X.env)) (backToKw pos (keywordEach [] X.env))) := by rfl) :
    JE X E (.Call (.Attribute o (PySem.Str.ofString mn) apos) (e :: es) [] pos) (dMeth tab mn n Wo Ws) := PE.imp (pe_methD (pl := pl) tk ho ha hst hpl ht) fun _ _ _ h => meth_ok (ta := lift X.K E Wo) (t := liftA X.K E Ws) M hr h
theorem je_meth0 {pl : Sem Bool} (M : OkMs X.prog X.w X.K X.base X.mg mn lv 0 tab) (tk : Takes X E) (hr : Room lv X.A) (ho : JE X E o Wo)
    (ht : eval (.Call (.Attribute o (PySem.Str.ofString mn) apos) [] [] pos) X.env = (do
      let ov ← eval o X.env
      standAt apos.atName
      let (f, first) ← holding [ov] (getMethod ov (PySem.Str.ofString mn) pl)
      callWith pos f first (backTo pos (starEach [] X.env)) (backToKw pos (keywordEach [] X.env))) := by rfl) :
    JE X E (.Call (.Attribute o (PySem.Str.ofString mn) apos) [] [] pos) (dMeth tab mn 0 Wo dNil) := PE.imp (pe_methD0 (pl := pl) tk ho ht) fun σ H Q h => by
  obtain ⟨w, ρ, m, Ψ, Φ, a, vl, h⟩ := meth_ok (ta := lift X.K E Wo) (t := liftA X.K E dNil) M hr h
  refine ⟨w, ρ, m, Ψ, Φ, a, fun d m1 w1 H1 v l1 h1 r1 q1 => ?_, h⟩
  obtain ⟨b0, C, dx, vs, f, fd, ps, sp, k, e1, e2, e3, e4, e5, e6, e7, e8, w', ρ', m', Ψ', Φ', a', n', q'⟩ := vl d m1 w1 H1 v l1 h1 r1 q1
  exact ⟨b0, C, dx, vs, f, fd, ps, sp, k, e1, e2, e3, e4, e5, e6, e7, e8, n' [] m' w' _ [] (.refl w') a'.h rfl q'⟩
end
/-! ### C(..) -/
def OkI (P : Program) (w : World) (K : PySem.W.Frag) (mg : Str → Option Value) (base : Heap) (c : String) (lv : Nat) (ps : List Str) (C : DC) : Prop :=
  ∃ f fd, mg (PySem.Str.ofString c) = some (.ref (kcl K c)) ∧ Mk K (kcl K c) f ∧ BA fd ps ∧ FnOk P w K mg base (L2.CX P w) lv f fd ps (spOf K ps.length C)
def dMake (n : Nat) (c : String) (C : DC) (r : DA) : DE := fun ρ m Φ Ψ => r ρ m (fun ds m1 => ds.length = n ∧ C (.hnd m1.M.length :: ds) (m1.push (.ins c [])) (fun d m2 => d = .non ∧ Φ (.hnd m1.M.length) m2) Ψ) Ψ
section
variable {X : Cx} {E : WX} {e : Expr} {es : List Expr} {Ws : DA} {c : String} {p pos : Pos} {lv : Nat} {ps : List Str} {C : DC}
theorem run_makeSD {f : Addr} {fd : FuncData} {A0 : Addr} {k : Nat} {sp : Sp} {E0 : XK} {pins : List (Addr × Obj)} {σ : L2.St} {H : Hp} {s : Shared} {Q : VK} {us : List Value} {vs : List V} (M : Mk X.K A0 f) (F : FnOk X.prog X.w X.K X.mg X.base (L2.CX X.prog X.w) k f fd ps sp) (hr : Room (k + 1) X.A) (hb : BA fd ps)
    (hx : PassesAt (L2.CX X.prog X.w) X σ E0) (I : Inv X pins σ H s) (r : Vals vs us)
    (h : ∀ x dx, H x = none → H dx = none → dx ≠ x → sp (.ref x :: vs) (upd (upd H dx (.own x)) x (.ins A0 dx [])) (fun v H2 => v = .non ∧ Q (.ref x) H2) E0) :
    wpAny (model X.prog X.w) X.A (call (.ref A0) us) (EP X pins σ Q) X.xe s := by
  have hq := h (s.heap.objs.size + 1) s.heap.objs.size (I.hok.fresh (Nat.le_succ _)) (I.hok.fresh (Nat.le_refl _)) (Nat.ne_of_lt (Nat.lt_succ_self _))
  have I2 := Inv.made (C := A0) I
  have r2 : Vals (V.ref (s.heap.objs.size + 1) :: vs) (Value.ref (s.heap.objs.size + 1) :: us) := .cons rfl r
  have hl : (Value.ref (s.heap.objs.size + 1) :: us).length = ps.length := by
    have e := r2.length
    rw [F.len _ _ _ _ hq] at e
    exact e.symm
  have b2 := Binds.all (K := X.K) hb _ (Value.ref (s.heap.objs.size + 1) :: us) I2.kIn (by rw [List.append_nil]; exact hl)
  rw [List.append_nil] at b2
  refine wpAny_call (make_map (f := f) I.kIn M.makes M.init (beq_iff_eq.mp M.fn) (codeAny_mono (F.run _ X.stack _ _ ⟨Value.ref (s.heap.objs.size + 1) :: us, []⟩ (Value.ref (s.heap.objs.size + 1) :: us) _ _ E0 (hr.make A0 us [])
    (I2.env0.make A0 us []) b2 r2 hq) fun r s' hq' => ?_))
  cases r with
  | error e => exact hx pins _ _ e s' I2 hq'
  | ok fl =>
    cases fl with
    | ret u =>
      obtain ⟨v, H', I3, rv, ev, q3⟩ := I2.after hq'
      subst ev
      exact ⟨rv, ⟨V.ref (s.heap.objs.size + 1), H', I3, rfl, q3⟩⟩
    | next => exact False.elim hq'
    | brk => exact False.elim hq'
    | cont => exact False.elim hq'
theorem HRep.make {K : PySem.W.Frag} {w : Wd} {m : MM} {H : Hp} {x dx : Addr} {c : String} (h : HRep K w m H) (hx : H x = none) (hdx : H dx = none) (hne : dx ≠ x) : HRep K (w.add x) (m.push (.ins c [])) (upd (upd H dx (.own x)) x (.ins (kcl K c) dx [])) := by
  have h1 : HRep K w m (upd H dx (.own x)) := h.ex (ex_new hdx)
  have hx1 : upd H dx (.own x) x = none := by rw [upd_ne (Ne.symm hne)]; exact hx
  exact h1.add hx1 ⟨dx, [], upd_same, rfl⟩
theorem make_sp {w : Wd} {ρ : Dl.Env} {m : MM} {Ψ : XP} {Φ : D → MM → Prop} {σ : L2.St} {H : Hp} {Q : VK} {ds : List D} {vs : List V} {x dx : Addr} (a : At X.K E w σ H ρ m Ψ) (vl : VLift X.K w Q Φ) (r : RepAll X.K w ds vs) (hn : ds.length + 1 = ps.length)
    (q : C (.hnd m.M.length :: ds) (m.push (.ins c [])) (fun d m2 => d = .non ∧ Φ (.hnd m.M.length) m2) Ψ) (hx : H x = none) (hdx : H dx = none) (hne : dx ≠ x) :
    spOf X.K ps.length C (.ref x :: vs) (upd (upd H dx (.own x)) x (.ins (kcl X.K c) dx [])) (fun v H2 => v = .non ∧ Q (.ref x) H2) (WE E σ) := by
  refine ⟨by rw [List.length_cons, r.length]; exact hn, w.add x, .hnd m.M.length :: ds, m.push (.ins c []), _, Ψ, HRep.make a.h hx hdx hne, ⟨_, _, rfl, rep_add a.h, RepAll.mono Wd.le_add _ _ r⟩, ?_, ?_, q⟩
  · rintro d m' w' H' v l h' rd ⟨rfl, q'⟩
    refine ⟨rd, vl (.hnd m.M.length) m' w' H' _ (Wd.le_add.trans l) h' ?_ q'⟩
    exact Rep.mono l _ _ (rep_add a.h)
  · intro C' fs m' w' H' d xs l h b cc q
    exact a.x C' fs m' w' H' d xs (Wd.le_add.trans l) h b cc q
theorem je_make (G : OkI X.prog X.w X.K X.mg X.base c lv ps C) (tk : Takes X E) (hr : Room (lv + 1) X.A) (hg : Gl X (PySem.Str.ofString c)) (ha : JA X E (e :: es) Ws) (n : Nat) (hn : ps.length = n + 1 := by rfl) (hdb : (PySem.Str.ofString c == ("__debug__" : Str)) = false := by decide)
    (he : starEach (e :: es) X.env = (false, eval e X.env) :: starEach es X.env := by rfl) (hpl : (backTo pos (starEach es X.env)).any (·.1) = false := by rfl) : JE X E (.Call (.Name (PySem.Str.ofString c) p) (e :: es) [] pos) (dMake n c C Ws) := by
  obtain ⟨f, fd, hm, M, b, F⟩ := G
  refine ⟨fun pins s σ H Q I h => ?_⟩
  obtain ⟨w, ρ, m, Ψ, Φ, a, vl, h⟩ := h
  refine wpAny_Call_Name_kw (ld_glob I hg hm ?_ hdb)
  refine PySem.W.callWith_K (h₀ := X.base) I.ok.mod.kin M.kp (thn (ha.run pos pins s σ H (fun vs H1 => ∃ (w1 : Wd) (ds : List D) (m1 : MM), w.le w1 ∧ HRep X.K w1 m1 H1 ∧ RepAll X.K w1 ds vs ∧ ds.length = n ∧ C (.hnd m1.M.length :: ds) (m1.push (.ins c [])) (fun d m2 => d = .non ∧ Φ (.hnd m1.M.length) m2) Ψ) I
    ⟨w, ρ, m, Ψ, _, a, fun ds m1 w1 H1 vs l1 h1 r1 q1 => ⟨w1, ds, m1, l1, h1, r1, q1.1, q1.2⟩, h⟩) fun us s1 ⟨vs, H1, I1, r, w1, ds, m1, l1, h1, r1, hl, q1⟩ => ⟨I1.kIn, ?_⟩) he hpl
  exact run_makeSD M F hr b (passAt tk σ) I1 r fun x dx hx hdx hne => make_sp (a.to l1 h1) (vl.mono l1) r1 (by omega) q1 hx hdx hne
end
/-! ### a def's own objects let go, others changed -/
def kept (m0 : MM) (M1 : List MO) : Prop := M1.length = m0.M.length ∧ ∀ (i : Nat) o, M1[i]? = some o → m0.M[i]? = some o ∨ clO m0.M.length o = true
theorem kept.rfl {m : MM} : kept m m.M := ⟨_root_.rfl, fun _ _ h => .inl h⟩
theorem kept.set {m : MM} {M1 : List MO} {k : Nat} {o : MO} (h : kept m M1) (c : clO m.M.length o = true) : kept m (M1.set k o) := by
  refine ⟨by rw [List.length_set]; exact h.1, fun i o' e => ?_⟩
  by_cases hi : k = i
  · subst hi
    by_cases hl : k < M1.length
    · rw [List.getElem?_set_self hl] at e
      cases e; exact .inr c
    · rw [List.getElem?_eq_none (by rw [List.length_set]; omega)] at e; cases e
  · rw [List.getElem?_set_ne hi] at e
    exact h.2 i o' e
def retQ (m0 : MM) (Φ : D → MM → Prop) : D → MM → Prop := fun d m' => ∃ M1 L d', m'.M = M1 ++ L ∧ kept m0 M1 ∧ (d' = d ∨ ∃ j ds, d = .hnd (m0.M.length + j) ∧ L[j]? = some (.lst ds) ∧ d' = .lst ds) ∧ clD m0.M.length d' = true ∧ Φ d' ⟨M1, m'.s⟩
def retX (m0 : MM) (Ψ : XP) : XP := fun c fs m' => ∃ M1 L, m'.M = M1 ++ L ∧ kept m0 M1 ∧ clF m0.M.length fs = true ∧ Ψ c fs ⟨M1, m'.s⟩
theorem retX_id {m0 : MM} {Ψ : XP} {c : String} {fs : List (String × D)} (hc : clF m0.M.length fs = true) (q : Ψ c fs m0) : retX m0 Ψ c fs m0 := ⟨m0.M, [], (List.append_nil _).symm, kept.rfl, hc, q⟩
section
variable {P : Program} {w : World} {K : PySem.W.Frag} {mg : Str → Option Value} {base : Heap}
theorem cut_kept {w0 : Wd} {m : MM} {H0 H' : Hp} {w2 : Wd} {m2 : MM} {M1 L : List MO} (h0 : HRep K w0 m H0) (h2 : HRep K w2 m2 H') (e : m2.M = M1 ++ L) (k : kept m M1) : HRep K (w2.cut m.M.length) ⟨M1, m2.s⟩ H' := by
  have et : m2.M.take m.M.length = M1 := by rw [e, ← k.1, List.take_left' rfl]
  have z := h2.cut (n := m.M.length) fun o ho => by
    rw [et] at ho
    obtain ⟨i, hi, rfl⟩ := List.mem_iff_getElem.mp ho
    rcases k.2 i _ (List.getElem?_eq_getElem hi) with q | q
    · exact h0.cls _ (List.mem_of_getElem? q)
    · exact q
  have em : m2.cut m.M.length = ⟨M1, m2.s⟩ := by
    show (⟨m2.M.take m.M.length, m2.s⟩ : MM) = _
    rw [et]
  rw [em] at z
  exact z
theorem okDQ {x qual : Str} {st : Stmt} {f : Addr} {fd : FuncData} {N ps : List Str} {k : Nat} {C : DC} {W : DS} (F : Fun K x qual st f fd) (S : FnScope N ps (defScope st))
    (hb : ∀ (cdv : Value) (A : Around) (outer : List PySem.Env) (s : Shared) (H : Hp) (E : XK), Room k (A.deeper (envOfC qual (defScope st) s.heap.objs.size f cdv)) → JSs (cxOf (L2.CX P w) P w K mg base N qual (defScope st) f cdv A outer s H E) (wishE E) (defBody st) W)
    (hC : ∀ ds m Φ Ψ, ds.length = ps.length → C ds m Φ Ψ → W { nx := fun _ m' => retQ m Φ .non m', rt := retQ m Φ } (fun _ => retX m Ψ) (ds.map some ++ List.replicate (N.length - ds.length) none) m) :
    FnOk P w K mg base (L2.CX P w) (k + 1) f fd ps (spOf K ps.length C) := by
  refine F.okX S (fun vs H Q E h => h.1) fun cdv A outer s H vs Q E hr h => ⟨_, hb cdv A outer s H E hr, ?_⟩
  obtain ⟨hl, w0, ds, m, Φ, Ψ, h0, r, vl, xl, c⟩ := h
  have hd : ds.length = ps.length := r.length.symm.trans hl
  have hlen : w0.th.length = m.M.length := h0.len
  refine ⟨w0, _, m, fun _ => retX m Ψ, _, ⟨h0, slots_start r, fun ρ σ w1 l1 _ C fs m' w' H' d xs l a b c q => ?_⟩, ?_, hC ds m Φ Ψ hd c⟩
  · obtain ⟨M1, L, e, kp, hcl, q⟩ := q
    exact xl C fs ⟨M1, m'.s⟩ (w'.cut m.M.length) H' d xs (Wd.le_cut (l1.trans l) (Nat.le_of_eq hlen)) (cut_kept h0 a e kp) b (RepF.cut _ _ c hcl) q
  have fin : VLift K w0 Q (retQ m Φ) := fun d m' w' H' v l h' rd ⟨M1, L, d', e, kp, hd', hcl, q⟩ => by
    rcases hd' with rfl | ⟨j, es', rfl, ej, rfl⟩
    · exact vl _ _ _ H' v (Wd.le_cut l (Nat.le_of_eq hlen)) (cut_kept h0 h' e kp) (Rep.cut _ _ rd hcl) q
    · obtain ⟨a, rfl, q2⟩ := rd
      have em : m'.M[m.M.length + j]? = some (.lst es') := by
        rw [e, ← kp.1, List.getElem?_append_right (Nat.le_add_right _ _), Nat.add_sub_cancel_left]; exact ej
      obtain ⟨xs, fa, hx, rr, hf⟩ := h'.frz q2 em
      refine vl (.lst es') ⟨M1, m'.s⟩ ((w'.put a (.lst xs)).cut m.M.length) H' _ (Wd.le_cut (l.trans (Wd.le_put fa)) (Nat.le_of_eq hlen)) (cut_kept (m2 := ⟨m'.M.set (m.M.length + j) .dead, m'.s⟩) (L := L.set j .dead) h0 hf ?_ kp) ?_ q
      · show m'.M.set (m.M.length + j) .dead = _
        rw [e, ← kp.1, List.set_append_right _ _ (Nat.le_add_right _ _), Nat.add_sub_cancel_left]
      · exact ⟨a, xs, rfl, upd_same, RepAll.cut _ _ (RepAll.mono (Wd.le_put fa) _ _ rr) hcl⟩
  exact ⟨fun ρ m' w' H' σ l h' _ q => fin .non m' w' H' _ l h' rfl q, fin, fun _ _ _ _ _ _ _ _ q => q.elim, fun _ _ _ _ _ _ _ _ q => q.elim⟩
end
/-! ### what the top must say of the classes -/
/-- a method as the top has written it -/
def MthT (K : PySem.W.Frag) (c mn : String) (q : Str) (st : Stmt) (ps : List Str) : Prop := ∃ f fd, Fun K (PySem.Str.ofString mn) q st f fd ∧ Cls K (kcl K c) ∧ Meth K (kcl K c) (PySem.Str.ofString mn) f ∧ BA fd ps
theorem mthT_mk {K : PySem.W.Frag} {c mn : String} {q : Str} {st : Stmt} {ps : List Str} {C f : Addr} {od an : Option Addr} {sl : Array (Option Value)} {oc kV dc pm cd ct : Value}
    (a : PySem.W.nsIn K mainGlobals (PySem.Str.ofString c) = some (some (.ref C))) (k1 : PySem.W.plainGet K C Str.empty = true) (k2 : PySem.W.hasDictIn K C = true) (k3 : PySem.W.plainOver K C = true) (k4 : PySem.W.findIn K (.ref C) "__setattr__" = some (some (.builtin "object.__setattr__")))
    (m1 : PySem.W.findIn K (.ref C) (PySem.Str.ofString mn) = some (some (.ref f))) (m2 : PySem.W.isFn K (.ref f) = true)
    (l : K.lookup f = some ⟨oc, od, .func (PySem.W.fnOf (PySem.Str.ofString mn) q (defArgs st) (defBody st) (defScope st) .none kV dc pm an cd ct), sl⟩) (cc : PySem.W.codeIn K cd q = true) (k : PySem.W.keepIn K (.ref f) = true)
    (b : ∀ (kV doc pm : Value) (an : Option Addr) (cdv ct : Value) (us : List Value), us.length = ps.length → bindArgs (PySem.W.fnOf (PySem.Str.ofString mn) q (defArgs st) (defBody st) (defScope st) .none kV doc pm an cdv ct) ⟨us, []⟩ = pure (ps.zip us)) : MthT K c mn q st ps := by
  refine ⟨f, _, fun_mk l cc k, ?_, ?_, b kV dc pm an cd ct⟩
  · rw [kcl_of a]; exact ⟨k1, k2, k3, k4⟩
  · rw [kcl_of a]; exact ⟨m1, m2, k⟩
/-- a class's __init__ as the top has written it -/
def IniT (K : PySem.W.Frag) (mg : Str → Option Value) (c : String) (q : Str) (st : Stmt) (ps : List Str) : Prop := ∃ f fd, Fun K "__init__" q st f fd ∧ mg (PySem.Str.ofString c) = some (.ref (kcl K c)) ∧ Mk K (kcl K c) f ∧ BA fd ps
theorem iniT_mk {K : PySem.W.Frag} {h : Heap} {mg : Str → Option Value} {c : String} {q : Str} {st : Stmt} {ps : List Str} {C f : Addr} {od an : Option Addr} {sl : Array (Option Value)} {oc kV dc pm cd ct : Value} (X : K.In h) (G : h.Ns mainGlobals mg)
    (a : PySem.W.nsIn K mainGlobals (PySem.Str.ofString c) = some (some (.ref C))) (k1 : PySem.W.makesIn K C = true) (k2 : PySem.W.findIn K (.ref C) "__init__" = some (some (.ref f))) (k3 : PySem.W.isFn K (.ref f) = true) (k4 : PySem.W.keepIn K (.ref C) = true)
    (l : K.lookup f = some ⟨oc, od, .func (PySem.W.fnOf "__init__" q (defArgs st) (defBody st) (defScope st) .none kV dc pm an cd ct), sl⟩) (cc : PySem.W.codeIn K cd q = true) (k : PySem.W.keepIn K (.ref f) = true)
    (b : ∀ (kV doc pm : Value) (an : Option Addr) (cdv ct : Value) (us : List Value), us.length = ps.length → bindArgs (PySem.W.fnOf "__init__" q (defArgs st) (defBody st) (defScope st) .none kV doc pm an cdv ct) ⟨us, []⟩ = pure (ps.zip us)) : IniT K mg c q st ps := by
  refine ⟨f, _, fun_mk l cc k, ?_, ?_, b kV dc pm an cd ct⟩
  · rw [kcl_of a]; exact PySem.W.mg_of X G a
  · rw [kcl_of a]; exact ⟨k1, k2, k3, k4⟩
end Dl

namespace Dl
open PySem L2 PyProof.Rows
theorem room65 {k : Nat} {A : Around} (r : Room k A) : A.units + 65 < cLine := by have := room_un r; omega
section
variable {X : Cx} {E : WX}
end
/-! ### == where a side may be a list that changes -/
def deref (m : MM) : D → D
  | .hnd k => match moL m.M[k]? with
    | some ds => .lst ds
    | none => .hnd k
  | d => d
def oEqH : DO := fun x y m Φ => okE 64 (deref m x) = true ∧ okE 64 (deref m y) = true ∧ Φ (.bl (eqD (deref m x) (deref m y))) m
def oNeH : DO := fun x y m Φ => okE 64 (deref m x) = true ∧ okE 64 (deref m y) = true ∧ Φ (.bl (!eqD (deref m x) (deref m y))) m
/-- list(x), a list that changes later -/
def cListM : DCB := fun ds m Φ => match ds with
  | [d] => match asL m d with
    | some xs => Φ (.hnd m.M.length) (m.push (.lst xs))
    | none => match asT d with
      | some xs => Φ (.hnd m.M.length) (m.push (.lst xs))
      | none => False
  | _ => False
def cAll : DCB := fun ds m Φ => match ds with
  | [d] => match asL m d with
    | some xs => ∃ bs, blsD xs = some bs ∧ Φ (.bl (bs.all id)) m
    | none => False
  | _ => False
theorem cbl_all {K : PySem.W.Frag} : CbL K (rAll K) cAll := fun w m H ds vs Q Φ h r vl q => by
  unfold cAll at q
  split at q
  · obtain ⟨v, rfl, rv⟩ := rep1 r
    split at q
    · rename_i e
      obtain ⟨ns, e2, q⟩ := q
      obtain ⟨a, us, rfl, ha, ra⟩ := asL_ok h e rv
      exact ⟨a, ns, rfl, by rw [← bls_ok e2 ra]; exact ha, vl.bl h q⟩
    · exact q.elim
  · exact q.elim
def cTuple : DCB := fun ds m Φ => match ds with
  | [d] => match asL m d with
    | some xs => Φ (.tup xs) m
    | none => match asT d with
      | some _ => Φ d m
      | none => False
  | _ => False
-- kit_all
theorem kq_NoneType_int : kitB "NoneType" "int" = some false := by decide +kernel
theorem kq_NoneType_bool : kitB "NoneType" "bool" = some false := by decide +kernel
theorem kq_NoneType_list : kitB "NoneType" "list" = some false := by decide +kernel
theorem kq_NoneType_tuple : kitB "NoneType" "tuple" = some false := by decide +kernel
theorem kq_NoneType_str : kitB "NoneType" "str" = some false := by decide +kernel
theorem kq_bool_int : kitB "bool" "int" = some true := by decide +kernel
theorem kq_bool_bool : kitB "bool" "bool" = some true := by decide +kernel
theorem kq_bool_list : kitB "bool" "list" = some false := by decide +kernel
theorem kq_bool_tuple : kitB "bool" "tuple" = some false := by decide +kernel
theorem kq_bool_str : kitB "bool" "str" = some false := by decide +kernel
theorem kq_int_int : kitB "int" "int" = some true := by decide +kernel
theorem kq_int_bool : kitB "int" "bool" = some false := by decide +kernel
theorem kq_int_list : kitB "int" "list" = some false := by decide +kernel
theorem kq_int_tuple : kitB "int" "tuple" = some false := by decide +kernel
theorem kq_int_str : kitB "int" "str" = some false := by decide +kernel
theorem kq_str_int : kitB "str" "int" = some false := by decide +kernel
theorem kq_str_bool : kitB "str" "bool" = some false := by decide +kernel
theorem kq_str_list : kitB "str" "list" = some false := by decide +kernel
theorem kq_str_tuple : kitB "str" "tuple" = some false := by decide +kernel
theorem kq_str_str : kitB "str" "str" = some true := by decide +kernel
theorem kq_list_int : kitB "list" "int" = some false := by decide +kernel
theorem kq_list_bool : kitB "list" "bool" = some false := by decide +kernel
theorem kq_list_list : kitB "list" "list" = some true := by decide +kernel
theorem kq_list_tuple : kitB "list" "tuple" = some false := by decide +kernel
theorem kq_list_str : kitB "list" "str" = some false := by decide +kernel
theorem kq_tuple_int : kitB "tuple" "int" = some false := by decide +kernel
theorem kq_tuple_bool : kitB "tuple" "bool" = some false := by decide +kernel
theorem kq_tuple_list : kitB "tuple" "list" = some false := by decide +kernel
theorem kq_tuple_tuple : kitB "tuple" "tuple" = some true := by decide +kernel
theorem kq_tuple_str : kitB "tuple" "str" = some false := by decide +kernel
/-! ### plain data -/
mutual
def plD : D → Bool
  | .non => true
  | .bl _ => true
  | .int _ => true
  | .str x => PyData.strOk x
  | .lst ds => plDs ds
  | .tup ds => plDs ds
  | _ => false
def plDs : List D → Bool
  | [] => true
  | d :: ds => plD d && plDs ds
end
theorem plDs_mem : ∀ {ds : List D}, plDs ds = true → ∀ d ∈ ds, plD d = true
  | [], _, d, hd => by cases hd
  | e :: ds, h, d, hd => by
    have h : (plD e && plDs ds) = true := h
    rw [Bool.and_eq_true] at h
    rcases List.mem_cons.mp hd with q | q
    · rw [q]; exact h.1
    · exact plDs_mem h.2 d q
theorem plDs_of : ∀ {ds : List D}, (∀ d ∈ ds, plD d = true) → plDs ds = true
  | [], _ => rfl
  | e :: ds, h => by
    show (plD e && plDs ds) = true
    rw [h e List.mem_cons_self, plDs_of fun d hd => h d (List.mem_cons_of_mem _ hd)]; rfl
mutual
theorem okE_mono : ∀ (d : D) {n k : Nat}, okE n d = true → n ≤ k → okE k d = true
  | .non, _, _, _, _ => rfl
  | .bl _, _, _, _, _ => rfl
  | .int _, _, _, _, _ => rfl
  | .str _, _, _, h, _ => h
  | .lst ds, n, k, h, l => by
    have h : (decide (0 < n) && okEs (n - 1) ds) = true := h
    rw [Bool.and_eq_true] at h
    have h0 := of_decide_eq_true h.1
    show (decide (0 < k) && okEs (k - 1) ds) = true
    rw [decide_eq_true (by omega), okEs_mono ds h.2 (by omega)]; rfl
  | .rol ds, n, k, h, l => by
    have h : (decide (0 < n) && okEs (n - 1) ds) = true := h
    rw [Bool.and_eq_true] at h
    have h0 := of_decide_eq_true h.1
    show (decide (0 < k) && okEs (k - 1) ds) = true
    rw [decide_eq_true (by omega), okEs_mono ds h.2 (by omega)]; rfl
  | .tup ds, n, k, h, l => by
    have h : (decide (0 < n) && okEs (n - 1) ds) = true := h
    rw [Bool.and_eq_true] at h
    have h0 := of_decide_eq_true h.1
    show (decide (0 < k) && okEs (k - 1) ds) = true
    rw [decide_eq_true (by omega), okEs_mono ds h.2 (by omega)]; rfl
  | .rot ds, n, k, h, l => by
    have h : (decide (0 < n) && okEs (n - 1) ds) = true := h
    rw [Bool.and_eq_true] at h
    have h0 := of_decide_eq_true h.1
    show (decide (0 < k) && okEs (k - 1) ds) = true
    rw [decide_eq_true (by omega), okEs_mono ds h.2 (by omega)]; rfl
  | .ty _, _, _, h, _ => nomatch h
  | .cls _, _, _, h, _ => nomatch h
  | .hnd _, _, _, h, _ => nomatch h
  | .st _, _, _, h, _ => nomatch h
  | .exc _ _ _ _, _, _, h, _ => nomatch h
theorem okEs_mono : ∀ (ds : List D) {n k : Nat}, okEs n ds = true → n ≤ k → okEs k ds = true
  | [], _, _, _, _ => rfl
  | d :: ds, n, k, h, l => by
    have h : (okE n d && okEs n ds) = true := h
    rw [Bool.and_eq_true] at h
    show (okE k d && okEs k ds) = true
    rw [okE_mono d h.1 l, okEs_mono ds h.2 l]; rfl
end
theorem okEs_mem {n : Nat} : ∀ {ds : List D}, okEs n ds = true → ∀ d ∈ ds, okE n d = true
  | [], _, d, hd => by cases hd
  | e :: ds, h, d, hd => by
    have h : (okE n e && okEs n ds) = true := h
    rw [Bool.and_eq_true] at h
    rcases List.mem_cons.mp hd with q | q
    · rw [q]; exact h.1
    · exact okEs_mem h.2 d q
theorem okEs_of {n : Nat} : ∀ {ds : List D}, (∀ d ∈ ds, okE n d = true) → okEs n ds = true
  | [], _ => rfl
  | e :: ds, h => by
    show (okE n e && okEs n ds) = true
    rw [h e List.mem_cons_self, okEs_of fun d hd => h d (List.mem_cons_of_mem _ hd)]; rfl
theorem okE_lst {n : Nat} {ds : List D} (h : ∀ d ∈ ds, okE n d = true) : okE (n + 1) (.lst ds) = true := by
  show (decide (0 < n + 1) && okEs (n + 1 - 1) ds) = true
  rw [decide_eq_true (by omega), Nat.add_sub_cancel, okEs_of h]; rfl
theorem okE_tup {n : Nat} {ds : List D} (h : ∀ d ∈ ds, okE n d = true) : okE (n + 1) (.tup ds) = true := by
  show (decide (0 < n + 1) && okEs (n + 1 - 1) ds) = true
  rw [decide_eq_true (by omega), Nat.add_sub_cancel, okEs_of h]; rfl
theorem okE_lst_mem {n : Nat} {ds : List D} (h : okE (n + 1) (.lst ds) = true) : ∀ d ∈ ds, okE n d = true := by
  have h : (decide (0 < n + 1) && okEs (n + 1 - 1) ds) = true := h
  rw [Bool.and_eq_true] at h
  exact okEs_mem h.2
theorem okE_tup_mem {n : Nat} {ds : List D} (h : okE (n + 1) (.tup ds) = true) : ∀ d ∈ ds, okE n d = true := by
  have h : (decide (0 < n + 1) && okEs (n + 1 - 1) ds) = true := h
  rw [Bool.and_eq_true] at h
  exact okEs_mem h.2
mutual
theorem clD_pl {n : Nat} : ∀ (d : D), plD d = true → clD n d = true
  | .non, _ => rfl
  | .bl _, _ => rfl
  | .int _, _ => rfl
  | .str _, _ => rfl
  | .lst ds, h => clAll_pl ds h
  | .tup ds, h => clAll_pl ds h
theorem clAll_pl {n : Nat} : ∀ (ds : List D), plDs ds = true → clAll n ds = true
  | [], _ => rfl
  | d :: ds, h => by
    have h : (plD d && plDs ds) = true := h
    rw [Bool.and_eq_true] at h
    show (clD n d && clAll n ds) = true
    rw [clD_pl d h.1, clAll_pl ds h.2]; rfl
end
theorem findSome_range {α : Type} {f : Nat → Option α} {n i : Nat} {a : α} (h : ∀ j < i, f j = none) (hi : i < n) (e : f i = some a) : (List.range n).findSome? f = some a := by
  have key : ∀ (k s : Nat), s ≤ i → i < s + k → (List.range' s k).findSome? f = some a := by
    intro k
    induction k with
    | zero => intro s h1 h2; omega
    | succ k ih =>
      intro s h1 h2
      rw [List.range'_succ, List.findSome?_cons]
      by_cases q : s = i
      · rw [q, e]
      · rw [h s (by omega)]
        exact ih (s + 1) (by omega) (by omega)
  rw [List.range_eq_range']
  exact key n 0 (by omega) (by omega)
theorem findSome_none {α : Type} {f : Nat → Option α} {n : Nat} (h : ∀ j < n, f j = none) : (List.range n).findSome? f = none := by
  rw [List.findSome?_eq_none_iff]
  intro j hj
  exact h j (List.mem_range.mp hj)
theorem app_len {M : List MO} {o : MO} : (M ++ [o])[M.length]? = some o := by rw [List.getElem?_append_right (Nat.le_refl _)]; simp
theorem set_app {M : List MO} {o z : MO} : (M ++ [o]).set M.length z = M ++ [z] := by rw [List.set_append_right _ _ (Nat.le_refl _)]; simp
theorem retQ_dead {m : MM} {Φ : D → MM → Prop} {d : D} {L : List MO} (hc : clD m.M.length d = true) (q : Φ d m) : retQ m Φ d ⟨m.M ++ L, m.s⟩ := ⟨m.M, L, d, rfl, kept.rfl, .inl rfl, hc, q⟩
theorem retQ_lst {m : MM} {Φ : D → MM → Prop} {xs : List D} (hc : clAll m.M.length xs = true) (q : Φ (.lst xs) m) : retQ m Φ (.hnd m.M.length) ⟨m.M ++ [.lst xs], m.s⟩ := ⟨m.M, [.lst xs], .lst xs, rfl, kept.rfl, .inr ⟨0, xs, rfl, rfl, rfl⟩, hc, q⟩
/-! ### repr of None too -/
section
variable {X : Cx} {E : WX} {a : Expr} {Wa : DE} {pos : Pos}
/-- a slice of a tuple, not the whole of it -/
def dSlT (a : DE) (lo hi : DPt) : DE := fun ρ m Φ Ψ => a ρ m (fun d m1 => lo ρ m1 (fun l m2 => hi ρ m2 (fun u m3 => match d with
  | .tup ds => ¬ (HT.sIx ds.length 0 l = 0 ∧ HT.sIx ds.length ds.length u = ds.length) ∧ Φ (.tup (cutD ds l u)) m3
  | _ => False) Ψ) Ψ) Ψ
end
end Dl

namespace Dl
open PySem L2
/-! ### a def that stands under another name; targets that are fields -/
def DefT2 (K : PySem.W.Frag) (mg : Str → Option Value) (x y : Str) (st : Stmt) (ps : List Str) : Prop := ∃ f fd, Fun K y y st f fd ∧ mg x = some (.ref f) ∧ BA fd ps
theorem defT2_mk {K : PySem.W.Frag} {h : Heap} {mg : Str → Option Value} {x y : Str} {st : Stmt} {ps : List Str} {f : Addr} {od an : Option Addr} {sl : Array (Option Value)} {oc kV dc pm cd ct : Value} (X : K.In h) (G : h.Ns mainGlobals mg)
    (a : PySem.W.nsIn K mainGlobals x = some (some (.ref f))) (l : K.lookup f = some ⟨oc, od, .func (PySem.W.fnOf y y (defArgs st) (defBody st) (defScope st) .none kV dc pm an cd ct), sl⟩) (c : PySem.W.codeIn K cd y = true) (k : PySem.W.keepIn K (.ref f) = true)
    (b : ∀ (kV doc pm : Value) (an : Option Addr) (cdv ct : Value) (us : List Value), us.length = ps.length → bindArgs (PySem.W.fnOf y y (defArgs st) (defBody st) (defScope st) .none kV doc pm an cdv ct) ⟨us, []⟩ = pure (ps.zip us)) : DefT2 K mg x y st ps :=
  ⟨f, _, fun_mk l c k, PySem.W.mg_of X G a, b kV dc pm an cd ct⟩
def gFldL (K : PySem.W.Frag) (ta : TE) (f : Str) : TG := fun y σ H Q => ta σ H fun x H2 => ∃ a C dx fs, x = .ref a ∧ H2 a = some (.ins C dx fs) ∧ Cls K C ∧ NoAttr K C f ∧ fs.length < 1000 ∧ Q σ (upd H2 a (.ins C dx (putF f y fs)))
section
variable {X : Cx} {E : WX} {o : Expr} {Wo : DE} {pos : Pos} {js : List Nat}
theorem pg_fld {f : Str} {ta : TE} (ho : PE X o ta) : PG X (.Attribute o f pos) (gFldL X.K ta f) := by
  refine ⟨fun pins s σ H v u Q I r h => ?_⟩
  rw [assign_Attribute]
  refine wpAny_bind (wpAny_holding (thn (ho.run pins s σ H _ I h) fun ov s1 ⟨x, H1, I1, rx, a, C, dx, fs, ex, ea, c, n, l, q⟩ => ?_))
  subst ex
  obtain rfl : ov = Value.ref a := rx
  refine wpAny_bind (wpAny_standAt (wpAny_bind (wpAny_holding (setattr_ok I1 ea c n l r fun s3 I3 => ?_))))
  exact wpAny_release ⟨σ, _, I3, q⟩
/-- o.f as a target -/
def dgFld (cs : List String) (f : String) (o : DE) : DG := fun d ρ m k => o ρ m (fun x m2 => match x with
  | .hnd i => match moI m2.M[i]? with
    | some (c, fs) => cs.contains c = true ∧ fs.length < 1000 ∧ k ρ ⟨m2.M.set i (.ins c (putD f d fs)), m2.s⟩
    | none => False
  | _ => False) XF
theorem jg_fld {f : String} {cs : List String} (T : FldT X.K cs f) (ho : JE X E o Wo) : PG X (.Attribute o (PySem.Str.ofString f) pos) (liftG X.K js (dgFld cs f Wo)) := PG.imp (pg_fld ho) fun v σ H Q ⟨w, ρ, m, d, k, h, s, r, n, q⟩ => by
  refine ⟨w, ρ, m, XF, _, ⟨h, s, xlift_F⟩, fun x m2 w2 H2 u l2 h2 r2 q2 => ?_, q⟩
  split at q2
  · rename_i i
    split at q2
    · rename_i c fs e
      obtain ⟨hc, hlen, q2⟩ := q2
      obtain ⟨b, rfl, eb⟩ := r2
      obtain ⟨dx, vs, hx, rf⟩ := h2.obj i b _ eb (moI_eq e)
      obtain ⟨t1, t2⟩ := T c hc
      refine ⟨b, kcl X.K c, dx, vs, rfl, hx, t1, t2, by rw [rf.length]; exact hlen, ?_⟩
      exact n ρ _ w2 _ σ l2 (h2.wr (o' := .ins c (putD f d fs)) eb (moI_eq e) (fun z => by cases z) ⟨dx, _, upd_same, RepF.put (Rep.mono l2 _ _ r) rf⟩) (s.mono l2) rfl q2
    · exact q2.elim
  · exact q2.elim
abbrev DGs := List D → Env → MM → (Env → MM → Prop) → Prop
def liftGs (K : PySem.W.Frag) (js : List Nat) (G : DGs) : TGs := fun vs σ H Q => ∃ w ρ m ds k, HRep K w m H ∧ Slots K w σ ρ ∧ RepAll K w ds vs ∧ (∀ ρ' m' w' H' σ', w.le w' → HRep K w' m' H' → Slots K w' σ' ρ' → wipe σ' js = wipe σ js → k ρ' m' → Q σ' H') ∧ G ds ρ m k
def dgsNil : DGs := fun ds ρ m k => match ds with
  | [] => k ρ m
  | _ => False
def dgsCons (g : DG) (r : DGs) : DGs := fun ds ρ m k => match ds with
  | d :: ds => g d ρ m (fun ρ1 m1 => r ds ρ1 m1 k)
  | [] => False
theorem PGs.imp {ts : List Expr} {t t' : TGs} (h : PGs X ts t) (i : ∀ vs σ H Q, t' vs σ H Q → t vs σ H Q) : PGs X ts t' := ⟨fun pins s σ H vs us Q I r q => h.run pins s σ H vs us Q I r (i vs σ H Q q)⟩
theorem jgs_nil : PGs X [] (liftGs X.K js dgsNil) := PGs.imp pgs_nil fun vs σ H Q ⟨w, ρ, m, ds, k, h, s, r, n, q⟩ => by
  cases ds with
  | nil =>
    have e : vs = [] := r
    exact ⟨e, n ρ m w H σ (.refl w) h s rfl q⟩
  | cons d ds => exact q.elim
theorem jgs_cons {e : Expr} {es : List Expr} {g : DG} {G : DGs} (h1 : PG X e (liftG X.K js g)) (h2 : PGs X es (liftGs X.K js G))
    (hs : (assignEach (e :: es) X.env).map (·.2) = assign e X.env :: (assignEach es X.env).map (·.2) := by rfl) : PGs X (e :: es) (liftGs X.K js (dgsCons g G)) := PGs.imp (pgs_cons h1 h2 hs) fun vs σ H Q ⟨w, ρ, m, ds, k, h, s, r, n, q⟩ => by
  cases ds with
  | nil => exact q.elim
  | cons d ds =>
    obtain ⟨v, r', rfl, rv, rr⟩ := r
    refine ⟨v, r', rfl, w, ρ, m, d, _, h, s, rv, fun ρ1 m1 w1 H1 σ1 l1 hh1 s1 e1 q1 => ?_, q⟩
    exact ⟨w1, ρ1, m1, ds, k, hh1, s1, RepAll.mono l1 _ _ rr, fun ρ2 m2 w2 H2 σ2 l2 hh2 s2 e2 q2 => n ρ2 m2 w2 H2 σ2 (l1.trans l2) hh2 s2 (e2.trans e1) q2, q1⟩
def dgTupG (n : Nat) (G : DGs) : DG := fun d ρ m k => match asT d with
  | some ds => ds.length = n ∧ G ds ρ m k
  | none => False
theorem jg_tupG {es : List Expr} {k n : Nat} {G : DGs} (hc : X.calm = true) (h : PGs X es (liftGs X.K js G)) (hn : (assignEach es X.env).length = n := by rfl)
    (hst : (assignEach es X.env).findIdx? (·.1) = none := by rfl) : PG X (.Tuple es k pos) (liftG X.K js (dgTupG n G)) := PG.imp (pg_tup hc h hn hst) fun v σ H Q ⟨w, ρ, m, d, k, h, s, r, n, q⟩ => by
  unfold dgTupG at q
  split at q
  · rename_i ds e
    obtain ⟨a, xs, rfl, hq, rr⟩ := asT_ok h e r
    exact ⟨a, xs, rfl, hq, rr.length.trans q.1, w, ρ, m, ds, k, h, s, rr, n, q.2⟩
  · exact q.elim
end
end Dl

namespace Dl
open PySem L2
/-! ### a comprehension whose items change the store; [x] * n as a changing list -/
def lcWS (g : DG) (tt : DT) (te : DE) (ρ : Env) (Φ : D → MM → Prop) : List D → List D → MM → Prop
  | [], acc, m => Φ (.lst acc) m
  | d :: ds, acc, m => g d ρ (m.push (.lst acc)) fun ρ1 m1 => m1 = m.push (.lst acc) ∧ tt ρ1 (m.push (.lst acc)) (fun b m2 => m2 = m.push (.lst acc) ∧ if b = true then
      te ρ1 (m.push (.lst acc)) (fun y m3 => ∃ M', m3.M = M' ++ [.lst acc] ∧ kept m M' ∧ acc.length < LIM ∧ clD m.M.length y = true ∧ lcWS g tt te ρ Φ ds (acc ++ [y]) ⟨M', m3.s⟩) XF
    else lcWS g tt te ρ Φ ds acc m) XF
def dLcS (it : DI) (g : DG) (tt : DT) (te : DE) (vs : List Nat) : DE := fun ρ m Φ Ψ => it ρ m (fun ds m1 => lcWS g tt te (wipeD ρ vs) Φ ds [] m1) Ψ
theorem lcS_ok {K : PySem.W.Frag} {E : WX} {wi : DI} {g : DG} {tt : DT} {te : DE} {vs : List Nat} {σ : L2.St} {H : Hp} {Q : VK} (h : lift K E (dLcS wi g tt te vs) σ H Q) : tLc (liftI K E wi) (liftG K vs g) (liftT K EF tt) (lift K EF te) vs σ H Q := by
  obtain ⟨w, ρ, m, Ψ, Φ, a, vl, h⟩ := h
  refine ⟨w, ρ, m, Ψ, _, a, fun ds m1 w1 H1 J l1 h1 wk q1 => ?_, h⟩
  intro D hD
  refine ⟨fun i k H => k = ds.length - i ∧ i ≤ ds.length ∧ ∃ (m9 : MM) (w' : Wd) (acc : List Dl.D), m9.M.length = m1.M.length ∧ (∀ o ∈ m9.M, clO m1.M.length o = true) ∧ w1.le w' ∧ HRep K w' (m9.push (.lst acc)) H ∧ w'.th[m1.M.length]? = some D ∧ clAll m1.M.length acc = true ∧ lcWS g tt te (wipeD ρ vs) Φ (ds.drop i) acc m9, ⟨ds.length, by omega, Nat.zero_le _, m1, w1.add D, [], rfl, h1.cls, Wd.le_add, h1.add hD ⟨[], upd_same, rfl⟩, ?_, rfl, q1⟩, ?_⟩
  · show (w1.th ++ [D])[m1.M.length]? = some D
    rw [← h1.len, List.getElem?_append_right (Nat.le_refl _)]; simp
  rintro i k H2 ⟨rfl, hi, m9, w2, acc, hlen, hcls, l2, h2, hD2, hcl, q2⟩
  by_cases hlt : i < ds.length
  · have ed : ds[i]? = some ds[i] := List.getElem?_eq_getElem hlt
    have dr : ds.drop i = ds[i] :: ds.drop (i + 1) := List.drop_eq_getElem_cons hlt
    rw [dr] at q2
    refine .inr ⟨wk.go w2 _ H2 i _ l2 h2 ed, fun H' => ∃ (m9 : MM) (w' : Wd) (acc : List Dl.D), m9.M.length = m1.M.length ∧ (∀ o ∈ m9.M, clO m1.M.length o = true) ∧ w1.le w' ∧ HRep K w' (m9.push (.lst acc)) H' ∧ w'.th[m1.M.length]? = some D ∧ clAll m1.M.length acc = true ∧ lcWS g tt te (wipeD ρ vs) Φ (ds.drop (i + 1)) acc m9, fun H' z => ⟨ds.length - (i + 1), by omega, rfl, hlt, z⟩, fun x H3 y => ?_⟩
    obtain ⟨w3, l3, h3, r3⟩ := wk.yld w2 _ H2 i _ x H3 l2 h2 ed y
    have s3 : Slots K w3 (L2.wipe σ vs) (wipeD ρ vs) := ((a.s.mono l1).mono (l2.trans l3)).wipes vs
    refine ⟨w3, wipeD ρ vs, _, ds[i], _, h3, s3, r3, fun ρ' m' w' H' σ' l h' s' e q => ⟨e.trans wipe_wipe, ?_⟩, q2⟩
    obtain ⟨rfl, q⟩ := q
    refine ⟨w', ρ', _, XF, _, ⟨h', s', xlift_F⟩, fun b m4 w4 H4 l4 h4 q4 => ?_, q⟩
    obtain ⟨rfl, q4⟩ := q4
    have l24 : w2.le w4 := l3.trans (l.trans l4)
    cases b with
    | true =>
      rw [if_pos rfl] at q4
      show (if true = true then _ else _)
      rw [if_pos rfl]
      refine ⟨w4, ρ', _, XF, _, ⟨h4, s'.mono l4, xlift_F⟩, fun y m5 w5 H5 v l5 h5 r5 q5 => ?_, q4⟩
      obtain ⟨M', e5, kp, hz, hy, q5⟩ := q5
      have hlen' : M'.length = m1.M.length := kp.1.trans hlen
      have hD5 : w5.th[m1.M.length]? = some D := l5.th _ _ (l24.th _ _ hD2)
      have hM : m5.M[m1.M.length]? = some (.lst acc) := by
        rw [e5, ← hlen', List.getElem?_append_right (Nat.le_refl _)]; simp
      obtain ⟨xs, hx, r⟩ := h5.obj _ D _ hD5 hM
      have hy : clD m1.M.length y = true := by rw [← hlen]; exact hy
      refine ⟨xs, hx, lim_lt (by rw [r.length]; exact hz), ⟨M', m5.s⟩, w5, acc ++ [y], hlen', fun o ho => ?_, l2.trans (l24.trans l5), ?_, hD5, clAll_app hcl (by show (clD _ y && true) = true; rw [hy]; rfl), q5⟩
      · obtain ⟨j, hj, ej⟩ := List.mem_iff_getElem.mp ho
        rcases kp.2 j o (by rw [List.getElem?_eq_getElem hj, ej]) with z | z
        · exact hcls o (List.mem_of_getElem? z)
        · rw [← hlen]; exact z
      have z := h5.wr (ho := .lst (xs ++ [v])) (o' := .lst (acc ++ [y])) hD5 hM (fun z => by cases z) ⟨_, upd_same, r.append ⟨v, [], rfl, r5, rfl⟩⟩
      have e : m5.M.set m1.M.length (.lst (acc ++ [y])) = M' ++ [.lst (acc ++ [y])] := by
        rw [e5, ← hlen', List.set_append_right _ _ (Nat.le_refl _)]; simp
      rw [e] at z
      exact z
    | false =>
      rw [if_neg Bool.false_ne_true] at q4
      show (if false = true then _ else _)
      rw [if_neg Bool.false_ne_true]
      exact ⟨m9, w4, acc, hlen, hcls, l2.trans l24, h4, l24.th _ _ hD2, hcl, q4⟩
  · have e : i = ds.length := by omega
    subst e
    rw [List.drop_length] at q2
    refine .inl ⟨wk.stop w2 _ H2 l2 h2, ?_⟩
    have hM : (m9.push (.lst acc)).M[m1.M.length]? = some (.lst acc) := by
      show (m9.M ++ [MO.lst acc])[m1.M.length]? = _
      rw [← hlen, List.getElem?_append_right (Nat.le_refl _)]; simp
    obtain ⟨xs, fD, hx, r, hf⟩ := h2.frz hD2 hM
    have et : ((m9.push (.lst acc)).M.set m1.M.length .dead).take m1.M.length = m9.M := by
      show ((m9.M ++ [MO.lst acc]).set m1.M.length .dead).take m1.M.length = m9.M
      rw [← hlen, List.set_append_right _ _ (Nat.le_refl _), List.take_left']
      rfl
    have hc := hf.cut (n := m1.M.length) (fun o ho => by
      have ho : o ∈ ((m9.push (.lst acc)).M.set m1.M.length .dead).take m1.M.length := ho
      rw [et] at ho
      exact hcls o ho)
    have em : (MM.cut ⟨(m9.push (.lst acc)).M.set m1.M.length .dead, (m9.push (.lst acc)).s⟩ m1.M.length) = m9 := by
      show (⟨((m9.push (.lst acc)).M.set m1.M.length .dead).take m1.M.length, m9.s⟩ : MM) = m9
      rw [et]
    rw [em] at hc
    have lc : w1.le ((w2.put D (.lst xs)).cut m1.M.length) := Wd.le_cut (l2.trans (Wd.le_put fD)) (Nat.le_of_eq h1.len)
    refine vl (.lst acc) m9 _ H2 _ (l1.trans lc) hc ?_ q2
    exact ⟨D, xs, rfl, upd_same, RepAll.cut _ _ (RepAll.mono (Wd.le_put fD) _ _ r) hcl⟩
section
variable {X : Cx} {E : WX}
theorem je_lcS {elt tg iter : Expr} {ifs : List Expr} {scope : Scope} {own : List (Str × Nat)} {pos : Pos} {wi : DI} {g : DG} {tt : DT} {te : DE} (hc : X.calm = true) (hN : X.N.Nodup) (hi : JI X E tg iter wi) (ok : BlkOk X.N X.env.scope scope own)
    (hg : ∀ (s : Shared) (H : Hp) (C : Addr) (cl : List (Str × Addr)) (fp : List Addr), PG (X.blk s H scope (compEnvC scope cl C X.env) fp) tg (liftG X.K (own.map (·.2)) g))
    (ht : ∀ (s : Shared) (H : Hp) (C : Addr) (cl : List (Str × Addr)) (fp : List Addr), PTs (X.blk s H scope (compEnvC scope cl C X.env) fp) ifs (liftT X.K EF tt))
    (he : ∀ (s : Shared) (H : Hp) (C : Addr) (cl : List (Str × Addr)) (fp : List Addr), JE (X.blk s H scope (compEnvC scope cl C X.env) fp) EF elt te) (hs : ∀ x, foldedSetIterable iter X.env x = pure x := by intro _; rfl) :
    JE X E (.ListComp elt [⟨tg, iter, ifs, 0⟩] scope pos) (dLcS wi g tt te (own.map (·.2))) := PE.imp (pe_lc hc hN hi ok hg ht he hs) fun _ _ _ h => lcS_ok h
theorem js_setLcS (i : Nat) {y : Str} {py : Pos} {elt tg iter : Expr} {ifs : List Expr} {scope : Scope} {own : List (Str × Nat)} {pos spos : Pos} {wi : DI} {g : DG} {tt : DT} {te : DE} (hc : X.calm = true) (hN : X.N.Nodup) (hy : X.N[i]? = some y) (hyl : X.env.scope.names.lookup y = some .local)
    (hsw : swapsWith (.ListComp elt [⟨tg, iter, ifs, 0⟩] scope pos) (some (.Name y py)) spos.line X.env = pure true) (hi : JI X E tg iter wi) (ok : BlkOk X.N X.env.scope scope own)
    (hg : ∀ (s : Shared) (H : Hp) (C : Addr) (cl : List (Str × Addr)) (fp : List Addr), PG (X.blk s H scope (compEnvC scope cl C X.env) fp) tg (liftG X.K (own.map (·.2)) g))
    (ht : ∀ (s : Shared) (H : Hp) (C : Addr) (cl : List (Str × Addr)) (fp : List Addr), PTs (X.blk s H scope (compEnvC scope cl C X.env) fp) ifs (liftT X.K EF tt))
    (he : ∀ (s : Shared) (H : Hp) (C : Addr) (cl : List (Str × Addr)) (fp : List Addr), JE (X.blk s H scope (compEnvC scope cl C X.env) fp) EF elt te) (hs : ∀ x, foldedSetIterable iter X.env x = pure x := by intro _; rfl) :
    JS X E (.Assign [.Name y py] (.ListComp elt [⟨tg, iter, ifs, 0⟩] scope pos) spos) (dSet i (dLcS wi g tt te (own.map (·.2)))) := PS.imp (ps_setLc hc hN hy hyl hsw hi ok hg ht he hs) fun D σ H ⟨w, ρ, m, Ψ, N, a, n, h⟩ => by
  refine lcS_ok (E := E) ⟨w, ρ, m, Ψ ρ, _, a.at, fun d m1 w1 H1 v l1 h1 r1 q1 => ?_, h⟩
  exact n.nx _ m1 w1 H1 _ l1 h1 ((a.s.mono l1).set i r1) q1
end
def oRepM : DO := fun x y m Φ => match x, y with
  | .lst ds, .int k => ds.length * k.toNat ≤ LIM ∧ -(2 ^ 63) ≤ k ∧ k < 2 ^ 63 ∧ Φ (.hnd m.M.length) (m.push (.lst (List.replicate k.toNat ds).flatten))
  | _, _ => False
theorem opl_repM {K : PySem.W.Frag} : OpL K rRep oRepM := fun w m H x y u v Q Φ h r1 r2 vl q => by
  unfold oRepM at q
  split at q
  · obtain ⟨a, xs, rfl, ha, ra⟩ := r1
    cases (show v = V.int _ from r2)
    obtain ⟨z, k1, k2, q⟩ := q
    refine ⟨a, _, xs, rfl, rfl, h.ext _ _ ha, k1, k2, lim_sz (by rw [ra.length]; exact z), fun p hp => ?_⟩
    exact vl.newM h hp (repAll_many ra _) q
  · exact q.elim
/-- a stateful comprehension of known items -/
theorem lcWS_fn {α : Type} {inj : α → D} {out : α → D} {g : DG} {te : DE} {ρ : Env} {Φ : D → MM → Prop} (I : List α → MM → Prop)
    (hg : ∀ x r (m : MM) (acc : List D) (Θ : D → MM → Prop), I (x :: r) m → (∀ M' s', kept m M' → clD m.M.length (out x) = true → I r ⟨M', s'⟩ → Θ (out x) ⟨M' ++ [.lst acc], s'⟩) → g (inj x) ρ (m.push (.lst acc)) (fun ρ1 m1 => m1 = m.push (.lst acc) ∧ te ρ1 (m.push (.lst acc)) Θ XF)) :
    ∀ (xs : List α) (m : MM) (acc : List D), acc.length + xs.length ≤ LIM → I xs m → (∀ m', I [] m' → Φ (.lst (acc ++ xs.map out)) m') → lcWS g dYes te ρ Φ (xs.map inj) acc m
  | [], m, acc, _, hi, h => by
    have z := h m hi
    rw [List.map_nil, List.append_nil] at z
    exact z
  | x :: xs, m, acc, hl, hi, h => by
    rw [List.length_cons] at hl
    have z := hg x xs m acc (fun y m3 => ∃ M', m3.M = M' ++ [.lst acc] ∧ kept m M' ∧ acc.length < LIM ∧ clD m.M.length y = true ∧ lcWS g dYes te ρ Φ (xs.map inj) (acc ++ [y]) ⟨M', m3.s⟩) hi (fun M' s' kp hc hi' => ⟨M', rfl, kp, by omega, hc, lcWS_fn I hg xs _ (acc ++ [out x]) (by rw [List.length_append, List.length_singleton]; omega) hi' fun m' hm' => by
      have q := h m' hm'
      rw [List.map_cons] at q
      rw [List.append_assoc]
      exact q⟩)
    have key : (fun (ρ1 : Dl.Env) (m1 : MM) => m1 = m.push (.lst acc) ∧ te ρ1 (m.push (.lst acc)) (fun y m3 => ∃ M', m3.M = M' ++ [.lst acc] ∧ kept m M' ∧ acc.length < LIM ∧ clD m.M.length y = true ∧ lcWS g dYes te ρ Φ (xs.map inj) (acc ++ [y]) ⟨M', m3.s⟩) XF)
        = (fun ρ1 m1 => m1 = m.push (.lst acc) ∧ dYes ρ1 (m.push (.lst acc)) (fun b m2 => m2 = m.push (.lst acc) ∧ if b = true then te ρ1 (m.push (.lst acc)) (fun y m3 => ∃ M', m3.M = M' ++ [.lst acc] ∧ kept m M' ∧ acc.length < LIM ∧ clD m.M.length y = true ∧ lcWS g dYes te ρ Φ (xs.map inj) (acc ++ [y]) ⟨M', m3.s⟩) XF
          else lcWS g dYes te ρ Φ (xs.map inj) acc m) XF) := by
      funext ρ1 m1
      unfold dYes
      simp
    rw [key] at z
    exact z
end Dl

namespace Dl
open PySem L2
/-! ### a changing list by a comprehension whose items change the store -/
section
variable {X : Cx} {E : WX}
end
end Dl

namespace Dl
open PySem L2
/-! ### a walk over a tuple -/
section
variable {X : Cx} {E : WX}
end
end Dl


namespace Dl
open PySem L2
local macro_rules | `(tactic| walk_at "dl") => `(tactic| try simp only [dSeq, dSet, dRaise_one, dRaise_two, dTryAs, dXf, dIsE, List.lookup_cons, List.lookup_nil, beq_self_eq_true, Bool.false_eq_true, if_false, dOp, dUn, dVar, dC, dCB, dCons, dNil, dRet, dRetN, dIf, dB, dAnd, dOr, dNot, dDrop, dNext, dMethL, dSetIx, dAndV, dOrV, dNotV, dBlV, dIfE, dLst, dTup, dLstM, dCall, dChain, dAsg, dgName, dgTup, bindD, asT, dFor, diList, diRng1, diRng2, diEnumerate, diZip, diReversed, dLc, dLcM, dYes, wipeD, dAug, dSl, dSlT, dpN, dpS,
  oI, oI0, oB0, oAdd, oNeg, oEq, oNe, oIx, oIsN, oNotN, isNon, oShl, oApp, oPop, oPopAt, cLen, cInt, cAbs, cSum, cMax2, cMin2, cList, cIsi, tyD, asL, asF, asK, moL_lst, ModC, DivC,
  List.getElem?_cons_zero, List.getElem?_cons_succ, List.set_cons_zero, List.set_cons_succ, List.getElem?_nil, List.length_cons, List.length_nil, List.length_map, Option.map_some, Option.bind_some, Option.isSome_some, if_true, true_and, and_true, MM.push])
local macro_rules | `(tactic| walk_at "dx") => `(tactic| try simp only [eq_self_iff_true, okE_int, okE_bl, okE_non, eqD_int, eqD_bl, kq_NoneType_int, kq_NoneType_bool, kq_NoneType_list, kq_NoneType_tuple, kq_NoneType_str, kq_bool_int, kq_bool_bool, kq_bool_list, kq_bool_tuple, kq_bool_str, kq_int_int, kq_int_bool, kq_int_list, kq_int_tuple, kq_int_str, kq_str_int, kq_str_bool, kq_str_list, kq_str_tuple, kq_str_str, kq_list_int, kq_list_bool, kq_list_list, kq_list_tuple, kq_list_str, kq_tuple_int, kq_tuple_bool, kq_tuple_list, kq_tuple_tuple, kq_tuple_str, oInL, oIsB, oNotB, oEqH, oNeH, oShr, oExt, cMaxL, cMinL, cAny, cAll, cTuple, cListM, dRevL, dFld, dSetF, dAugF, dMeth, dMake, moI_ins, app_len, set_app, List.contains_cons, List.contains_nil, Bool.true_or,  Bool.true_eq_false, decide_true, not_true_eq_false, not_false_eq_true, Bool.not_true, Bool.not_false, decide_eq_true_eq, Bool.not_eq_true', decide_eq_false_iff_not, dSeq, dSet, dRaise_one, dRaise_two, dTryAs, dXf, dIsE, List.lookup_cons, List.lookup_nil, beq_self_eq_true, Bool.false_eq_true, if_false, dOp, dUn, dVar, dC, dCB, dCons, dNil, dRet, dRetN, dIf, dB, dAnd, dOr, dNot, dDrop, dNext, dMethL, dSetIx, dAndV, dOrV, dNotV, dBlV, dIfE, dLst, dTup, dLstM, dCall, dChain, dAsg, dgName, dgTup, bindD, asT, dFor, diList, diRng1, diRng2, diEnumerate, diZip, diReversed, dLc, dLcM, dYes, wipeD, dAug, dSl, dSlT, dpN, dpS,
  oI, oI0, oB0, oAdd, oNeg, oEq, oNe, oIx, oIsN, oNotN, isNon, oShl, oApp, oPop, oPopAt, cLen, cInt, cAbs, cSum, cMax2, cMin2, cList, cIsi, tyD, asL, asF, asK, moL_lst, ModC, DivC,
  List.getElem?_cons_zero, List.getElem?_cons_succ, List.set_cons_zero, List.set_cons_succ, List.getElem?_nil, List.length_cons, List.length_nil, List.length_map, Option.map_some, Option.bind_some, Option.isSome_some, if_true, true_and, and_true, MM.push])
local macro_rules | `(tactic| walk_at "lim") => `(tactic| repeat (first | (refine ⟨by decide, ?_⟩) | (refine ⟨by (try simp only [List.length_map, List.length_dropLast, List.length_append, List.length_cons, List.length_nil, List.length_replicate, List.length_take, List.length_drop, List.length_range]); (show _ ≤ 16777216); omega, ?_⟩)))

set_option hygiene false in
local macro_rules | `(tactic| walk_at "stp") => `(tactic| (refine dSeq_k fun k1 h1 => ?_; walk_at "dx"))
set_option hygiene false in
local macro_rules | `(tactic| walk_at "nxt") => `(tactic| (subst h1; (try dsimp only); refine dSeq_k fun k1 h1 => ?_; walk_at "dx"))
set_option hygiene false in
local macro_rules | `(tactic| walk_at "lst") => `(tactic| (subst h1; (try dsimp only); walk_at "dx"))
set_option hygiene false in
local macro_rules | `(tactic| walk_at "nxt2") => `(tactic| (subst h2; (try dsimp only); refine dSeq_k fun k2 h2 => ?_; walk_at "dx"))
set_option hygiene false in
local macro_rules | `(tactic| walk_at "stp2") => `(tactic| (refine dSeq_k fun k2 h2 => ?_; walk_at "dx"))
set_option hygiene false in
local macro_rules | `(tactic| walk_at "lst2") => `(tactic| (subst h2; (try dsimp only); walk_at "dx"))

/-! ### defs of the program that many laws reach -/
def PM (p : Int) : Prop := 2 ≤ p ∧ p ≤ 2147483647
theorem mod_in {p : Int} (hp : 2 ≤ p) {z : Int} : 0 ≤ z % p ∧ z % p < p := ⟨Int.emod_nonneg _ (by omega), Int.emod_lt_of_pos _ (by omega)⟩
theorem Cg.eq {p a b : Int} (h : Cg p a b) (a0 : 0 ≤ a ∧ a < p) (b0 : 0 ≤ b ∧ b < p) : a = b := by
  unfold Cg at h
  rw [Int.emod_eq_of_lt a0.1 a0.2, Int.emod_eq_of_lt b0.1 b0.2] at h
  exact h
def C_power : DC := fun ds m Φ _ => ∃ (b p : Int) (e : Nat), ds = [.int b, .int e, .int p] ∧ PM p ∧ Φ (.int (b ^ e % p)) m
def W_power : DS := dSeq (dSet 3 (dOp oMod (dC (.int 1)) (dVar 2))) (dSeq (dSet 4 (dOp oMod (dVar 0) (dVar 2))) (dSeq (dWhile (dB (dOp oGt (dVar 1) (dC (.int 0)))) (dSeq (dIf (dB (dOp oEq (dOp oMod (dVar 1) (dC (.int 2))) (dC (.int 1)))) (dSet 3 (dOp oMod (dOp oMul (dVar 3) (dVar 4)) (dVar 2))) (dNext)) (dSeq (dSet 4 (dOp oMod (dOp oMul (dVar 4) (dVar 4)) (dVar 2))) (dAug 1 (oI CDiv fun i j => i / j) (dC (.int 2)))))) (dRet (dVar 3))))
theorem rd_power : ∀ ds m Φ Ψ, ds.length = 3 → C_power ds m Φ Ψ → W_power { nx := fun _ m' => Φ .non m', rt := Φ } (fun _ => Ψ) (ds.map some ++ List.replicate (5 - ds.length) none) m := by
  intro ds m Φ Ψ _ h
  obtain ⟨b, p, e, rfl, ⟨hp, hp2⟩, q⟩ := h
  change W_power _ _ [some (.int b), some (.int e), some (.int p), none, none] m
  unfold W_power
  refine dSeq_k fun k1 h1 => ?_
  walk_at "dl"
  refine ⟨by omega, ?_⟩
  subst h1
  refine dSeq_k fun k1 h1 => ?_
  walk_at "dl"
  refine ⟨by omega, ?_⟩
  subst h1
  refine dSeq_k fun k1 h1 => ?_
  refine ⟨fun c ρ m' => ∃ (r s : Int), ρ = [some (.int b), some (.int c), some (.int p), some (.int r), some (.int s)] ∧ m' = m ∧ 0 ≤ r ∧ r < p ∧ 0 ≤ s ∧ s < p ∧ Cg p (r * s ^ c) (b ^ e), ⟨e, _, _, rfl, rfl, (mod_in hp).1, (mod_in hp).2, (mod_in hp).1, (mod_in hp).2, ?_⟩, ?_⟩
  · refine (Cg.mul .mod (Cg.pow .mod e)).trans (.of_eq (Int.one_mul _))
  · rintro c ρ m' ⟨r, s, rfl, rfl, r0, r1, s0, s1, hc⟩
    walk_at "dl"
    by_cases c0 : c = 0
    · subst c0
      rw [decide_eq_false (by decide), if_neg (by decide)]
      subst h1
      walk_at "dl"
      rw [Int.pow_zero, Int.mul_one] at hc
      have : r = b ^ e % p := Cg.eq (hc.trans Cg.mod.symm) ⟨r0, r1⟩ (mod_in hp)
      rw [this]
      exact q
    · rw [decide_eq_true (by omega), if_pos rfl]
      refine ⟨by decide, rfl, rfl, ?_⟩
      rw [eqD_int]
      have hlt : c / 2 < c := by omega
      have hcd : ((c : Nat) : Int) / 2 = ((c / 2 : Nat) : Int) := by omega
      rw [hcd]
      have sq : Cg p ((s * s % p) ^ (c / 2)) (s ^ (2 * (c / 2))) := by
        refine (Cg.pow .mod _).trans (.of_eq ?_)
        rw [Int.pow_mul]
        congr 1
        rw [Int.pow_succ, Int.pow_succ, Int.pow_zero, Int.one_mul]
      by_cases hb : (c : Int) % 2 = 1
      · rw [if_pos (decide_eq_true hb)]
        refine ⟨mulR s0 (by omega), by omega, mulR s0 (by omega), by omega, ⟨by decide, by decide⟩, c / 2, hlt, _, _, rfl, (mod_in hp).1, (mod_in hp).2, (mod_in hp).1, (mod_in hp).2, ?_⟩
        refine (Cg.mul .mod sq).trans (Cg.trans (.of_eq ?_) hc)
        have : c = 2 * (c / 2) + 1 := by omega
        rw [show s ^ c = s ^ (2 * (c / 2) + 1) by rw [← this], Int.pow_succ, Int.mul_assoc, Int.mul_comm s]
      · rw [if_neg (by simpa using hb)]
        refine ⟨mulR s0 (by omega), by omega, ⟨by decide, by decide⟩, c / 2, hlt, _, _, rfl, r0, r1, (mod_in hp).1, (mod_in hp).2, ?_⟩
        refine (Cg.mul .refl sq).trans (Cg.trans (.of_eq ?_) hc)
        have : c = 2 * (c / 2) := by omega
        rw [show s ^ c = s ^ (2 * (c / 2)) by rw [← this]]
/-- the inverse, or the error -/
def C_inverse : DC := fun ds m Φ Ψ => ∃ (a p : Int), ds = [.int a, .int p] ∧ PM p ∧ (a % p = 0 → Ψ "FieldError" [("number", .int a)] m) ∧ (a % p ≠ 0 → Φ (.int (a ^ (p - 2).toNat % p)) m)
def W_inverse : DS := dSeq (dIf (dB (dOp oEq (dOp oMod (dVar 0) (dVar 1)) (dC (.int 0)))) (dRaise "FieldError" ["number"] (dCons (dVar 0) (dNil))) (dNext)) (dRet (dCall 3 C_power (dCons (dVar 0) (dCons (dOp oSub (dVar 1) (dC (.int 2))) (dCons (dVar 1) (dNil))))))
theorem rd_inverse : ∀ ds m Φ Ψ, ds.length = 2 → C_inverse ds m Φ Ψ → W_inverse { nx := fun _ m' => Φ .non m', rt := Φ } (fun _ => Ψ) (ds.map some ++ List.replicate (2 - ds.length) none) m := by
  intro ds m Φ Ψ _ h
  obtain ⟨a, p, rfl, hp, q1, q2⟩ := h
  have hp1 := hp.1
  change W_inverse _ _ [some (.int a), some (.int p)] m
  unfold W_inverse
  refine dSeq_k fun k1 h1 => ?_
  walk_at "dl"
  refine ⟨by omega, rfl, rfl, ?_⟩
  rw [eqD_int]
  by_cases ha : a % p = 0
  · rw [if_pos (by simpa using ha)]
    walk_at "dl"
    exact q1 ha
  · rw [if_neg (by simpa using ha)]
    subst h1
    walk_at "dl"
    exact ⟨a, p, (p - 2).toNat, by rw [Int.toNat_of_nonneg (by omega)], hp, q2 ha⟩
/-- a prime by trial division -/
def Pr (n : Int) : Prop := 2 ≤ n ∧ ∀ d : Int, 2 ≤ d → d * d ≤ n → n % d ≠ 0
noncomputable def isPr (n : Int) : Bool := @decide (Pr n) (Classical.propDecidable _)
theorem isPr_true {n : Int} (h : Pr n) : isPr n = true := @decide_eq_true _ (Classical.propDecidable _) h
theorem isPr_false {n : Int} (h : ¬ Pr n) : isPr n = false := @decide_eq_false _ (Classical.propDecidable _) h
theorem sq_lt {d k n : Int} (h1 : d * d ≤ n) (h2 : n < k * k) (k0 : 0 ≤ k) (d0 : 0 ≤ d) : d < k := by
  rcases Int.lt_or_le d k with h | h
  · exact h
  · have := Int.mul_le_mul h h k0 d0
    omega
theorem le_sq {k : Int} (h : 1 ≤ k) : k ≤ k * k := by
  have := Int.mul_le_mul_of_nonneg_left h (show (0 : Int) ≤ k by omega)
  omega
theorem prim_Pr {n : Int} (P : Prim n) : Pr n := by
  refine ⟨P.two, fun d d2 hd z => ?_⟩
  obtain ⟨k, hk⟩ := Int.dvd_of_emod_eq_zero z
  have n2 := P.two
  have kpos : 0 < k := by
    rcases Int.lt_or_le 0 k with h | h
    · exact h
    · have := Int.mul_nonpos_of_nonneg_of_nonpos (show 0 ≤ d by omega) h
      omega
  have hdn : d < n := by
    have h1 := Int.mul_le_mul d2 (Int.le_refl d) (by omega) (by omega)
    omega
  have hkn : k < n := by
    have h1 := Int.mul_le_mul d2 (Int.le_refl k) (by omega) (by omega)
    omega
  rcases P.euc d k (by rw [← hk]; exact Int.dvd_refl n) with h | h
  · have := Int.le_of_dvd (by omega) h; omega
  · have := Int.le_of_dvd kpos h; omega
def C_is_prime : DC := fun ds m Φ _ => ∃ n : Int, ds = [.int n] ∧ n < 2 ^ 62 ∧ Φ (.bl (isPr n)) m
def W_is_prime : DS := dSeq (dIf (dB (dOp oLt (dVar 0) (dC (.int 4)))) (dRet (dOp oGt (dVar 0) (dC (.int 1)))) (dNext)) (dSeq (dIf (dB (dOp oEq (dOp oMod (dVar 0) (dC (.int 2))) (dC (.int 0)))) (dRet (dC (.bl false))) (dNext)) (dSeq (dSet 1 (dC (.int 3))) (dSeq (dWhile (dB (dOp oLe (dOp oMul (dVar 1) (dVar 1)) (dVar 0))) (dSeq (dIf (dB (dOp oEq (dOp oMod (dVar 0) (dVar 1)) (dC (.int 0)))) (dRet (dC (.bl false))) (dNext)) (dAug 1 (oI0 fun i j => i + j) (dC (.int 2))))) (dRet (dC (.bl true))))))
theorem rd_is_prime : ∀ ds m Φ Ψ, ds.length = 1 → C_is_prime ds m Φ Ψ → W_is_prime { nx := fun _ m' => Φ .non m', rt := Φ } (fun _ => Ψ) (ds.map some ++ List.replicate (2 - ds.length) none) m := by
  intro ds m Φ Ψ _ h
  obtain ⟨n, rfl, hn, q⟩ := h
  change W_is_prime _ _ [some (.int n), none] m
  unfold W_is_prime
  refine dSeq_k fun k1 h1 => ?_
  walk_at "dl"
  by_cases h4 : n < 4
  · rw [if_pos (decide_eq_true h4)]
    by_cases h2 : 1 < n
    · rw [decide_eq_true h2]
      rwa [isPr_true ⟨h2, fun d d2 hd => by have := Int.mul_le_mul d2 d2 (by decide) (by omega); omega⟩] at q
    · rw [decide_eq_false h2]
      rwa [isPr_false (fun z => h2 z.1)] at q
  rw [if_neg (by simpa using h4)]
  subst h1
  refine dSeq_k fun k1 h1 => ?_
  walk_at "dl"
  refine ⟨by decide, rfl, rfl, ?_⟩
  rw [eqD_int]
  by_cases he : n % 2 = 0
  · rw [if_pos (by simpa using he)]
    rwa [isPr_false (fun z => z.2 2 (by decide) (by omega) he)] at q
  rw [if_neg (by simpa using he)]
  subst h1
  refine dSeq_k fun k1 h1 => ?_
  walk_at "dl"
  subst h1
  refine dSeq_k fun k1 h1 => ?_
  refine ⟨fun c ρ m' => ∃ k : Int, c = (n + 3 - k).toNat ∧ ρ = [some (.int n), some (.int k)] ∧ m' = m ∧ 3 ≤ k ∧ k ≤ n + 2 ∧ k % 2 = 1 ∧ ∀ d, 2 ≤ d → d < k → n % d ≠ 0, ⟨_, 3, rfl, rfl, rfl, by decide, by omega, by decide, fun d h1 h2 => (show d = 2 by omega) ▸ he⟩, ?_⟩
  rintro c ρ m' ⟨k, rfl, rfl, rfl, k3, kn, ko, hk⟩
  walk_at "dl"
  have kk : k ≤ k * k := le_sq (by omega)
  by_cases hkn : k * k ≤ n
  · rw [decide_eq_true hkn, if_pos rfl]
    have hkn2 : k ≤ n := by omega
    refine ⟨.inl ⟨by omega, by omega⟩, ?_⟩
    walk_at "dl"
    refine ⟨by omega, rfl, rfl, ?_⟩
    rw [eqD_int]
    by_cases hd : n % k = 0
    · rw [if_pos (by simpa using hd)]
      walk_at "dl"
      rwa [isPr_false (fun z => z.2 k (by omega) hkn hd)] at q
    · rw [if_neg (by simpa using hd)]
      refine ⟨_, ?_, k + 2, rfl, rfl, by omega, by omega, by omega, fun d d2 hd2 => ?_⟩
      · omega
      · rcases Int.lt_or_le d k with h | h
        · exact hk d d2 h
        · by_cases e : d = k
          · rw [e]; exact hd
          · have e2 : d = k + 1 := by omega
            intro z
            apply he
            have : (2 : Int) ∣ n := Int.dvd_trans (Int.dvd_of_emod_eq_zero (by omega)) (Int.dvd_of_emod_eq_zero z)
            exact Int.emod_eq_zero_of_dvd this
  · rw [decide_eq_false hkn, if_neg (by decide)]
    refine ⟨.inl ⟨by omega, by omega⟩, ?_⟩
    subst h1
    walk_at "dl"
    rwa [isPr_true ⟨by omega, fun d d2 hd => hk d d2 (sq_lt hd (by omega) (by omega) (by omega))⟩] at q
def C_check_modulus : DC := fun ds m Φ Ψ => ∃ p : Int, ds = [.int p] ∧ ((2 ≤ p ∧ p ≤ 2147483647 ∧ Pr p) → Φ .non m) ∧ (¬ (2 ≤ p ∧ p ≤ 2147483647 ∧ Pr p) → Ψ "FieldError" [("number", .int p)] m)
def W_check_modulus : DS := dIf (dOr (dNot (dB (dChain oLe oLe (dC (.int 2)) (dVar 0) ((dC (.int 2147483647)))))) (dNot (dB (dCall 1 C_is_prime (dCons (dVar 0) (dNil)))))) (dRaise "FieldError" ["number"] (dCons (dVar 0) (dNil))) (dNext)
theorem rd_check_modulus : ∀ ds m Φ Ψ, ds.length = 1 → C_check_modulus ds m Φ Ψ → W_check_modulus { nx := fun _ m' => Φ .non m', rt := Φ } (fun _ => Ψ) (ds.map some ++ List.replicate (1 - ds.length) none) m := by
  intro ds m Φ Ψ _ h
  obtain ⟨p, rfl, q1, q2⟩ := h
  change W_check_modulus _ _ [some (.int p)] m
  unfold W_check_modulus
  walk_at "dl"
  by_cases h2 : 2 ≤ p
  · rw [if_pos (decide_eq_true h2)]
    by_cases h3 : p ≤ 2147483647
    · rw [decide_eq_true h3]
      walk_at "dl"
      refine ⟨p, rfl, by omega, ?_⟩
      by_cases h4 : Pr p
      · rw [isPr_true h4]
        walk_at "dl"
        exact q1 ⟨h2, h3, h4⟩
      · rw [isPr_false h4]
        walk_at "dl"
        exact q2 fun z => h4 z.2.2
    · rw [decide_eq_false h3]
      walk_at "dl"
      exact q2 fun z => h3 z.2.1
  · rw [if_neg (by simpa using h2)]
    walk_at "dl"
    exact q2 fun z => h2 z.1
end Dl

namespace Dl
open PySem L2
local macro_rules | `(tactic| walk_at "dl") => `(tactic| try simp only [dSeq, dSet, dRaise_one, dRaise_two, dTryAs, dXf, dIsE, List.lookup_cons, List.lookup_nil, beq_self_eq_true, Bool.false_eq_true, if_false, dOp, dUn, dVar, dC, dCB, dCons, dNil, dRet, dRetN, dIf, dB, dAnd, dOr, dNot, dDrop, dNext, dMethL, dSetIx, dAndV, dOrV, dNotV, dBlV, dIfE, dLst, dTup, dLstM, dCall, dChain, dAsg, dgName, dgTup, bindD, asT, dFor, diList, diRng1, diRng2, diEnumerate, diZip, diReversed, dLc, dLcM, dYes, wipeD, dAug, dSl, dSlT, dpN, dpS,
  oI, oI0, oB0, oAdd, oNeg, oEq, oNe, oIx, oIsN, oNotN, isNon, oShl, oApp, oPop, oPopAt, cLen, cInt, cAbs, cSum, cMax2, cMin2, cList, cIsi, tyD, asL, asF, asK, moL_lst, ModC, DivC,
  List.getElem?_cons_zero, List.getElem?_cons_succ, List.set_cons_zero, List.set_cons_succ, List.getElem?_nil, List.length_cons, List.length_nil, List.length_map, Option.map_some, Option.bind_some, Option.isSome_some, if_true, true_and, and_true, MM.push])
local macro_rules | `(tactic| walk_at "dx") => `(tactic| try simp only [eq_self_iff_true, okE_int, okE_bl, okE_non, eqD_int, eqD_bl, kq_NoneType_int, kq_NoneType_bool, kq_NoneType_list, kq_NoneType_tuple, kq_NoneType_str, kq_bool_int, kq_bool_bool, kq_bool_list, kq_bool_tuple, kq_bool_str, kq_int_int, kq_int_bool, kq_int_list, kq_int_tuple, kq_int_str, kq_str_int, kq_str_bool, kq_str_list, kq_str_tuple, kq_str_str, kq_list_int, kq_list_bool, kq_list_list, kq_list_tuple, kq_list_str, kq_tuple_int, kq_tuple_bool, kq_tuple_list, kq_tuple_tuple, kq_tuple_str, oInL, oIsB, oNotB, oEqH, oNeH, oShr, oExt, cMaxL, cMinL, cAny, cAll, cTuple, cListM, dRevL, dFld, dSetF, dAugF, dMeth, dMake, moI_ins, app_len, set_app, List.contains_cons, List.contains_nil, Bool.true_or,  Bool.true_eq_false, decide_true, not_true_eq_false, not_false_eq_true, Bool.not_true, Bool.not_false, decide_eq_true_eq, Bool.not_eq_true', decide_eq_false_iff_not, dSeq, dSet, dRaise_one, dRaise_two, dTryAs, dXf, dIsE, List.lookup_cons, List.lookup_nil, beq_self_eq_true, Bool.false_eq_true, if_false, dOp, dUn, dVar, dC, dCB, dCons, dNil, dRet, dRetN, dIf, dB, dAnd, dOr, dNot, dDrop, dNext, dMethL, dSetIx, dAndV, dOrV, dNotV, dBlV, dIfE, dLst, dTup, dLstM, dCall, dChain, dAsg, dgName, dgTup, bindD, asT, dFor, diList, diRng1, diRng2, diEnumerate, diZip, diReversed, dLc, dLcM, dYes, wipeD, dAug, dSl, dSlT, dpN, dpS,
  oI, oI0, oB0, oAdd, oNeg, oEq, oNe, oIx, oIsN, oNotN, isNon, oShl, oApp, oPop, oPopAt, cLen, cInt, cAbs, cSum, cMax2, cMin2, cList, cIsi, tyD, asL, asF, asK, moL_lst, ModC, DivC,
  List.getElem?_cons_zero, List.getElem?_cons_succ, List.set_cons_zero, List.set_cons_succ, List.getElem?_nil, List.length_cons, List.length_nil, List.length_map, Option.map_some, Option.bind_some, Option.isSome_some, if_true, true_and, and_true, MM.push])
local macro_rules | `(tactic| walk_at "lim") => `(tactic| repeat (first | (refine ⟨by decide, ?_⟩) | (refine ⟨by (try simp only [List.length_map, List.length_dropLast, List.length_append, List.length_cons, List.length_nil, List.length_replicate, List.length_take, List.length_drop, List.length_range]); (show _ ≤ 16777216); omega, ?_⟩)))

set_option hygiene false in
local macro_rules | `(tactic| walk_at "stp") => `(tactic| (refine dSeq_k fun k1 h1 => ?_; walk_at "dx"))
set_option hygiene false in
local macro_rules | `(tactic| walk_at "nxt") => `(tactic| (subst h1; (try dsimp only); refine dSeq_k fun k1 h1 => ?_; walk_at "dx"))
set_option hygiene false in
local macro_rules | `(tactic| walk_at "lst") => `(tactic| (subst h1; (try dsimp only); walk_at "dx"))
set_option hygiene false in
local macro_rules | `(tactic| walk_at "nxt2") => `(tactic| (subst h2; (try dsimp only); refine dSeq_k fun k2 h2 => ?_; walk_at "dx"))
set_option hygiene false in
local macro_rules | `(tactic| walk_at "stp2") => `(tactic| (refine dSeq_k fun k2 h2 => ?_; walk_at "dx"))
set_option hygiene false in
local macro_rules | `(tactic| walk_at "lst2") => `(tactic| (subst h2; (try dsimp only); walk_at "dx"))

/-! ### circuits -/
theorem okE_str {n : Nat} {x : Str} (h : PyData.strOk x = true) : okE n (.str x) = true := h
theorem sk_circuit : PyData.strOk (PySem.Str.ofString "circuit") = true := by decide +kernel
theorem sk_lin : PyData.strOk (PySem.Str.ofString "lin") = true := by decide +kernel
theorem sk_mul : PyData.strOk (PySem.Str.ofString "mul") = true := by decide +kernel
def fitsD (d : D) (most : Int) : Bool := match d with
  | .int i => decide (0 ≤ i ∧ i ≤ most)
  | _ => false
def C_fits : DC := fun ds m Φ _ => ∃ (d : D) (most : Int), ds = [d, .int most] ∧ plD d = true ∧ Φ (.bl (fitsD d most)) m
def W_fits : DS := dRet (dAndV (dCB cIsi (dCons (dVar 0) (dCons (dC (.ty "int")) (dNil)))) (dAndV (dNotV (dCB cIsi (dCons (dVar 0) (dCons (dC (.ty "bool")) (dNil))))) (dChain oLe oLe (dC (.int 0)) (dVar 0) (dVar 1))))
theorem rd_fits : ∀ ds m Φ Ψ, ds.length = 2 → C_fits ds m Φ Ψ → W_fits { nx := fun _ m' => Φ .non m', rt := Φ } (fun _ => Ψ) (ds.map some ++ List.replicate (2 - ds.length) none) m := by
  intro ds m Φ Ψ _ h
  obtain ⟨d, most, rfl, hp, q⟩ := h
  change W_fits _ _ [some d, some (.int most)] m
  unfold W_fits
  cases d with
  | int i =>
    walk_at "dx"
    by_cases h0 : 0 ≤ i
    · rw [if_pos h0]
      have e : decide (i ≤ most) = fitsD (.int i) most := decide_eq_decide.mpr ⟨fun h => ⟨h0, h⟩, fun h => h.2⟩
      rw [e]; exact q
    · rw [if_neg h0]
      have e : fitsD (.int i) most = false := decide_eq_false (fun z => h0 z.1)
      rw [e] at q; exact q
  | non => walk_at "dx"; exact q
  | bl b => walk_at "dx"; exact q
  | str x => walk_at "dx"; exact q
  | lst x => walk_at "dx"; exact q
  | tup x => walk_at "dx"; exact q
  | _ => exact nomatch hp
def gateD (d : D) (p cols : Int) : Bool := match d with
  | .tup [.str s, a, b, c, e] => decide (s = PySem.Str.ofString "lin") && (fitsD a (p - 1) && (fitsD c (p - 1) && (fitsD b (cols - 1) && fitsD e (cols - 1))))
  | .tup [.str s, a, b, c] => decide (s = PySem.Str.ofString "mul") && (fitsD a (p - 1) && (fitsD b (cols - 1) && fitsD c (cols - 1)))
  | _ => false
def C_is_gate : DC := fun ds m Φ _ => ∃ (d : D) (p cols : Int), ds = [d, .int p, .int cols] ∧ plD d = true ∧ okE 50 d = true ∧ Φ (.bl (gateD d p cols)) m
def W_is_gate : DS := dSeq (dIf (dOr (dNot (dB (dCB cIsi (dCons (dVar 0) (dCons (dC (.ty "tuple")) (dNil)))))) (dB (dOp oEq (dCB cLen (dCons (dVar 0) (dNil))) (dC (.int 0))))) (dRet (dC (.bl false))) (dNext)) (dSeq (dIf (dAnd (dB (dOp oEq (dOp oIx (dVar 0) (dC (.int 0))) (dC (.str (PySem.Str.ofString "lin"))))) (dB (dOp oEq (dCB cLen (dCons (dVar 0) (dNil))) (dC (.int 5))))) (dSeq (dSet 3 (dAndV (dCall 2 C_fits (dCons (dOp oIx (dVar 0) (dC (.int 1))) (dCons (dOp oSub (dVar 1) (dC (.int 1))) (dNil)))) (dCall 2 C_fits (dCons (dOp oIx (dVar 0) (dC (.int 3))) (dCons (dOp oSub (dVar 1) (dC (.int 1))) (dNil)))))) (dRet (dAndV (dVar 3) (dAndV (dCall 2 C_fits (dCons (dOp oIx (dVar 0) (dC (.int 2))) (dCons (dOp oSub (dVar 2) (dC (.int 1))) (dNil)))) (dCall 2 C_fits (dCons (dOp oIx (dVar 0) (dC (.int 4))) (dCons (dOp oSub (dVar 2) (dC (.int 1))) (dNil)))))))) (dNext)) (dSeq (dIf (dAnd (dB (dOp oEq (dOp oIx (dVar 0) (dC (.int 0))) (dC (.str (PySem.Str.ofString "mul"))))) (dB (dOp oEq (dCB cLen (dCons (dVar 0) (dNil))) (dC (.int 4))))) (dRet (dAndV (dCall 2 C_fits (dCons (dOp oIx (dVar 0) (dC (.int 1))) (dCons (dOp oSub (dVar 1) (dC (.int 1))) (dNil)))) (dAndV (dCall 2 C_fits (dCons (dOp oIx (dVar 0) (dC (.int 2))) (dCons (dOp oSub (dVar 2) (dC (.int 1))) (dNil)))) (dCall 2 C_fits (dCons (dOp oIx (dVar 0) (dC (.int 3))) (dCons (dOp oSub (dVar 2) (dC (.int 1))) (dNil))))))) (dNext)) (dRet (dC (.bl false)))))
theorem eqD_strN {d : D} {s : Str} (h : ∀ t, d ≠ .str t) : eqD d (.str s) = false := by
  cases d with
  | str t => exact absurd rfl (h t)
  | _ => rfl
theorem rd_is_gate : ∀ ds m Φ Ψ, ds.length = 3 → C_is_gate ds m Φ Ψ → W_is_gate { nx := fun _ m' => Φ .non m', rt := Φ } (fun _ => Ψ) (ds.map some ++ List.replicate (4 - ds.length) none) m := by
  intro ds m Φ Ψ _ h
  obtain ⟨d, p, cols, rfl, hp, ho, q⟩ := h
  change W_is_gate _ _ [some d, some (.int p), some (.int cols), none] m
  unfold W_is_gate
  refine dSeq_k fun k1 h1 => ?_
  cases d with
  | non => walk_at "dx"; exact q
  | bl b => walk_at "dx"; exact q
  | int b => walk_at "dx"; exact q
  | str x => walk_at "dx"; exact q
  | lst x => walk_at "dx"; exact q
  | tup xs =>
    walk_at "dx"
    cases xs with
    | nil =>
      rw [if_pos (by simp)]
      exact q
    | cons x r =>
      have hxs : ∀ y ∈ x :: r, plD y = true := plDs_mem hp
      have hos : ∀ y ∈ x :: r, okE 64 y = true := fun y hy => okE_mono y (okE_tup_mem (n := 49) ho y hy) (by decide)
      have l0 : ¬ ((x :: r).length : Int) = 0 := by rw [List.length_cons]; omega
      rw [if_neg (by simpa using l0)]
      subst h1
      refine dSeq_k fun k1 h1 => ?_
      walk_at "dx"
      refine ⟨x, atI_cons0, hos x List.mem_cons_self, okE_str sk_lin, ?_⟩
      have other : (∀ t, x = .str t → ¬ t = PySem.Str.ofString "lin" ∨ ¬ r.length = 4) → k1 [some (.tup (x :: r)), some (.int p), some (.int cols), none] m := fun hno => by
        subst h1
        refine dSeq_k fun k1 h1 => ?_
        walk_at "dx"
        refine ⟨x, atI_cons0, hos x List.mem_cons_self, okE_str sk_mul, ?_⟩
        have other2 : (∀ t, x = .str t → ¬ t = PySem.Str.ofString "mul" ∨ ¬ r.length = 3) → k1 [some (.tup (x :: r)), some (.int p), some (.int cols), none] m := fun hno2 => by
          subst h1
          walk_at "dx"
          have e : gateD (.tup (x :: r)) p cols = false := by
            unfold gateD
            split
            · rename_i s a b c e he
              cases he
              rcases hno s rfl with z | z
              · rw [decide_eq_false z]; rfl
              · exact absurd rfl z
            · rename_i s a b c he
              cases he
              rcases hno2 s rfl with z | z
              · rw [decide_eq_false z]; rfl
              · exact absurd rfl z
            · rfl
          rw [e] at q
          exact q
        by_cases hx : ∃ t, x = .str t
        · obtain ⟨t, rfl⟩ := hx
          rw [eqD_str]
          by_cases ht : t = PySem.Str.ofString "mul"
          · rw [if_pos (by simpa using ht)]
            by_cases hl : r.length = 3
            · rw [if_pos (by rw [hl]; rfl)]
              obtain ⟨a, b, c, rfl⟩ : ∃ a b c, r = [a, b, c] := by
                match r, hl with
                | [a, b, c], _ => exact ⟨a, b, c, rfl⟩
              have ha := hxs a (by simp)
              have hb := hxs b (by simp)
              have hc := hxs c (by simp)
              have eg : gateD (.tup [.str t, a, b, c]) p cols = (fitsD a (p - 1) && (fitsD b (cols - 1) && fitsD c (cols - 1))) := by
                show (decide (t = PySem.Str.ofString "mul") && _) = _
                rw [decide_eq_true ht, Bool.true_and]
              rw [eg] at q
              refine ⟨a, rfl, a, p - 1, rfl, ha, ?_⟩
              walk_at "dx"
              cases fa : fitsD a (p - 1) with
              | false => rw [fa] at q; walk_at "dx"; exact q
              | true =>
                rw [fa] at q
                walk_at "dx"
                refine ⟨b, rfl, b, cols - 1, rfl, hb, ?_⟩
                walk_at "dx"
                cases fb : fitsD b (cols - 1) with
                | false => rw [fb] at q; walk_at "dx"; exact q
                | true =>
                  rw [fb] at q
                  walk_at "dx"
                  exact ⟨c, rfl, c, cols - 1, rfl, hc, q⟩
            · rw [if_neg (by simp; omega)]
              exact other2 fun t' e => .inr hl
          · rw [if_neg (by simpa using ht)]
            exact other2 fun t' e => .inl (by cases e; exact ht)
        · rw [eqD_strN (fun t z => hx ⟨t, z⟩), if_neg (by decide)]
          exact other2 fun t e => absurd ⟨t, e⟩ hx
      by_cases hx : ∃ t, x = .str t
      · obtain ⟨t, rfl⟩ := hx
        rw [eqD_str]
        by_cases ht : t = PySem.Str.ofString "lin"
        · rw [if_pos (by simpa using ht)]
          by_cases hl : r.length = 4
          · rw [if_pos (by rw [hl]; rfl)]
            obtain ⟨a, b, c, e, rfl⟩ : ∃ a b c e, r = [a, b, c, e] := by
              match r, hl with
              | [a, b, c, e], _ => exact ⟨a, b, c, e, rfl⟩
            have ha := hxs a (by simp)
            have hb := hxs b (by simp)
            have hc := hxs c (by simp)
            have he := hxs e (by simp)
            have eg : gateD (.tup [.str t, a, b, c, e]) p cols = (fitsD a (p - 1) && (fitsD c (p - 1) && (fitsD b (cols - 1) && fitsD e (cols - 1)))) := by
              show (decide (t = PySem.Str.ofString "lin") && _) = _
              rw [decide_eq_true ht, Bool.true_and]
            rw [eg] at q
            refine ⟨a, rfl, a, p - 1, rfl, ha, ?_⟩
            walk_at "dx"
            cases fa : fitsD a (p - 1) with
            | false =>
              rw [fa] at q
              walk_at "dx"
              exact q
            | true =>
              rw [fa] at q
              walk_at "dx"
              refine ⟨c, rfl, c, p - 1, rfl, hc, ?_⟩
              cases fc : fitsD c (p - 1) with
              | false =>
                rw [fc] at q
                walk_at "dx"
                exact q
              | true =>
                rw [fc] at q
                walk_at "dx"
                refine ⟨b, rfl, b, cols - 1, rfl, hb, ?_⟩
                cases fb : fitsD b (cols - 1) with
                | false =>
                  rw [fb] at q
                  walk_at "dx"
                  exact q
                | true =>
                  rw [fb] at q
                  walk_at "dx"
                  exact ⟨e, rfl, e, cols - 1, rfl, he, q⟩
          · rw [if_neg (by simp; omega)]
            exact other fun t' e => .inr hl
        · rw [if_neg (by simpa using ht)]
          exact other fun t' e => .inl (by cases e; exact ht)
      · rw [eqD_strN (fun t z => hx ⟨t, z⟩), if_neg (by decide)]
        exact other fun t e => absurd ⟨t, e⟩ hx
  | _ => exact nomatch hp

def natD (d : D) : Bool := match d with
  | .int b => decide (0 ≤ b)
  | _ => false
def shapedD (d : D) : Bool := match d with
  | .tup [.str s, .int _, .lst ws, .lst ls] => decide (s = PySem.Str.ofString "circuit") && (decide (0 < ls.length) && (decide (ws.length = ls.length + 1) && ws.all natD))
  | _ => false
def C_is_shaped : DC := fun ds m Φ _ => ∃ d : D, ds = [d] ∧ plD d = true ∧ okE 50 d = true ∧ (∀ a b ws e, d = .tup [a, b, .lst ws, e] → ws.length ≤ 1000) ∧ Φ (.bl (shapedD d)) m
def W_is_shaped : DS := dSeq (dIf (dOr (dNot (dB (dCB cIsi (dCons (dVar 0) (dCons (dC (.ty "tuple")) (dNil)))))) (dOr (dB (dOp oNe (dCB cLen (dCons (dVar 0) (dNil))) (dC (.int 4)))) (dB (dOp oNe (dOp oIx (dVar 0) (dC (.int 0))) (dC (.str (PySem.Str.ofString "circuit"))))))) (dRet (dC (.bl false))) (dNext)) (dSeq (dAsg (dVar 0) (dgTup [1, 2, 3, 4])) (dSeq (dIf (dOr (dNot (dB (dCB cIsi (dCons (dVar 2) (dCons (dC (.ty "int")) (dNil)))))) (dOr (dB (dCB cIsi (dCons (dVar 2) (dCons (dC (.ty "bool")) (dNil))))) (dOr (dNot (dB (dCB cIsi (dCons (dVar 3) (dCons (dC (.ty "list")) (dNil)))))) (dNot (dB (dCB cIsi (dCons (dVar 4) (dCons (dC (.ty "list")) (dNil))))))))) (dRet (dC (.bl false))) (dNext)) (dSeq (dIf (dOr (dB (dOp oEq (dCB cLen (dCons (dVar 4) (dNil))) (dC (.int 0)))) (dB (dOp oNe (dCB cLen (dCons (dVar 3) (dNil))) (dOp oAdd (dCB cLen (dCons (dVar 4) (dNil))) (dC (.int 1)))))) (dRet (dC (.bl false))) (dNext)) (dRet (dCB cAll (dCons (dLc (diList (dVar 3)) (dgName 5) (dYes) (dAndV (dCB cIsi (dCons (dVar 5) (dCons (dC (.ty "int")) (dNil)))) (dAndV (dNotV (dCB cIsi (dCons (dVar 5) (dCons (dC (.ty "bool")) (dNil))))) (dOp oGe (dVar 5) (dC (.int 0))))) [5]) (dNil)))))))
theorem rd_is_shaped : ∀ ds m Φ Ψ, ds.length = 1 → C_is_shaped ds m Φ Ψ → W_is_shaped { nx := fun _ m' => Φ .non m', rt := Φ } (fun _ => Ψ) (ds.map some ++ List.replicate (6 - ds.length) none) m := by
  intro ds m Φ Ψ _ h
  obtain ⟨d, rfl, hp, ho, hws, q⟩ := h
  change W_is_shaped _ _ [some d, none, none, none, none, none] m
  unfold W_is_shaped
  refine dSeq_k fun k1 h1 => ?_
  cases d with
  | non => walk_at "dx"; exact q
  | bl b => walk_at "dx"; exact q
  | int b => walk_at "dx"; exact q
  | str x => walk_at "dx"; exact q
  | lst x => walk_at "dx"; exact q
  | tup xs =>
    walk_at "dx"
    by_cases hl : xs.length = 4
    · obtain ⟨x, y, z, u, rfl⟩ : ∃ a b c e, xs = [a, b, c, e] := by
        match xs, hl with
        | [a, b, c, e], _ => exact ⟨a, b, c, e, rfl⟩
      have hxs : ∀ v ∈ [x, y, z, u], plD v = true := plDs_mem hp
      have hos : ∀ v ∈ [x, y, z, u], okE 64 v = true := fun v hv => okE_mono v (okE_tup_mem (n := 49) ho v hv) (by decide)
      rw [if_neg (by simp)]
      refine ⟨x, rfl, hos x (by simp), okE_str sk_circuit, ?_⟩
      have hno : (¬ ∃ s i ws ls, [x, y, z, u] = [.str s, .int i, .lst ws, .lst ls] ∧ s = PySem.Str.ofString "circuit") → shapedD (.tup [x, y, z, u]) = false := fun hh => by
        unfold shapedD
        split
        · rename_i s i ws ls e
          cases e
          rw [decide_eq_false (fun z => hh ⟨_, _, _, _, rfl, z⟩)]; rfl
        · rfl
      by_cases hx : x = .str (PySem.Str.ofString "circuit")
      · subst hx
        rw [eqD_str, if_neg (by simp)]
        subst h1
        refine dSeq_k fun k1 h1 => ?_
        walk_at "dx"
        subst h1
        refine dSeq_k fun k1 h1 => ?_
        have py := hxs y (by simp)
        have pz := hxs z (by simp)
        have pu := hxs u (by simp)
        have key : ∀ i ws ls, y = .int i → z = .lst ws → u = .lst ls → k1 [some (.tup [.str (PySem.Str.ofString "circuit"), y, z, u]), some (.str (PySem.Str.ofString "circuit")), some y, some z, some u, none] m := by
          rintro i ws ls rfl rfl rfl
          subst h1
          refine dSeq_k fun k1 h1 => ?_
          have e1 : shapedD (.tup [.str (PySem.Str.ofString "circuit"), .int i, .lst ws, .lst ls]) = (decide (0 < ls.length) && (decide (ws.length = ls.length + 1) && ws.all natD)) := by simp [shapedD]
          rw [e1] at q
          walk_at "dx"
          by_cases l0 : ls.length = 0
          · rw [if_pos (by omega)]
            rw [decide_eq_false (by omega)] at q
            exact q
          rw [if_neg (by omega)]
          by_cases l1 : ws.length = ls.length + 1
          · rw [decide_eq_true l1, decide_eq_true (by omega)] at q
            rw [if_neg (by omega)]
            subst h1
            walk_at "dx"
            have hl2 := hws _ _ _ _ rfl
            have hpw : ∀ v ∈ ws, plD v = true := plDs_mem pz
            have fin : ws.map (fun v => natD v) = ws.map natD := rfl
            refine lcW_fn (inj := id) (out := D.bl) natD m ws ?_ (fun _ => rfl) (by show ws.length ≤ 16777216; omega) ?_ |> fun z => by rwa [List.map_id] at z
            · intro v hv m2 Θ hΘ
              cases v with
              | int i => walk_at "dx"; exact hΘ
              | non => walk_at "dx"; exact hΘ
              | bl b => walk_at "dx"; exact hΘ
              | str b => walk_at "dx"; exact hΘ
              | lst b => walk_at "dx"; exact hΘ
              | tup b => walk_at "dx"; exact hΘ
              | _ => exact nomatch hpw _ hv
            · walk_at "dx"
              refine ⟨_, bls_map _, ?_⟩
              rw [List.all_map]
              exact q
          · rw [decide_eq_false l1] at q
            rw [if_pos (by omega)]
            simpa using q
        have bad : (¬ ∃ i ws ls, y = .int i ∧ z = .lst ws ∧ u = .lst ls) → shapedD (.tup [.str (PySem.Str.ofString "circuit"), y, z, u]) = false := fun hh => hno (by
          rintro ⟨s, i, ws, ls, e, _⟩
          cases e
          exact hh ⟨_, _, _, rfl, rfl, rfl⟩)
        cases y with
        | int i =>
          cases z with
          | lst ws =>
            cases u with
            | lst ls =>
              walk_at "dx"
              exact key i ws ls rfl rfl rfl
            | non => rw [bad (by rintro ⟨_, _, _, _, _, e⟩; cases e)] at q; walk_at "dx"; exact q
            | bl b => rw [bad (by rintro ⟨_, _, _, _, _, e⟩; cases e)] at q; walk_at "dx"; exact q
            | int b => rw [bad (by rintro ⟨_, _, _, _, _, e⟩; cases e)] at q; walk_at "dx"; exact q
            | str b => rw [bad (by rintro ⟨_, _, _, _, _, e⟩; cases e)] at q; walk_at "dx"; exact q
            | tup b => rw [bad (by rintro ⟨_, _, _, _, _, e⟩; cases e)] at q; walk_at "dx"; exact q
            | _ => exact nomatch pu
          | non => rw [bad (by rintro ⟨_, _, _, _, e, _⟩; cases e)] at q; walk_at "dx"; exact q
          | bl b => rw [bad (by rintro ⟨_, _, _, _, e, _⟩; cases e)] at q; walk_at "dx"; exact q
          | int b => rw [bad (by rintro ⟨_, _, _, _, e, _⟩; cases e)] at q; walk_at "dx"; exact q
          | str b => rw [bad (by rintro ⟨_, _, _, _, e, _⟩; cases e)] at q; walk_at "dx"; exact q
          | tup b => rw [bad (by rintro ⟨_, _, _, _, e, _⟩; cases e)] at q; walk_at "dx"; exact q
          | _ => exact nomatch pz
        | non => rw [bad (by rintro ⟨_, _, _, e, _, _⟩; cases e)] at q; walk_at "dx"; exact q
        | bl b => rw [bad (by rintro ⟨_, _, _, e, _, _⟩; cases e)] at q; walk_at "dx"; exact q
        | str b => rw [bad (by rintro ⟨_, _, _, e, _, _⟩; cases e)] at q; walk_at "dx"; exact q
        | lst b => rw [bad (by rintro ⟨_, _, _, e, _, _⟩; cases e)] at q; walk_at "dx"; exact q
        | tup b => rw [bad (by rintro ⟨_, _, _, e, _, _⟩; cases e)] at q; walk_at "dx"; exact q
        | _ => exact nomatch py
      · rw [hno (by
          rintro ⟨s, i, ws, ls, e, rfl⟩
          cases e
          exact hx rfl)] at q
        have ne : eqD x (.str (PySem.Str.ofString "circuit")) = false := by
          by_cases hs : ∃ t, x = .str t
          · obtain ⟨t, rfl⟩ := hs
            rw [eqD_str]
            exact decide_eq_false fun z => hx (by rw [z])
          · exact eqD_strN fun t e => hs ⟨t, e⟩
        rw [ne, if_pos rfl]
        exact q
    · rw [if_pos (by simpa using (show ¬ (xs.length : Int) = 4 by omega))]
      have e : shapedD (.tup xs) = false := by
        unfold shapedD
        split
        · rename_i e
          cases e
          exact absurd rfl hl
        · rfl
      rw [e] at q
      exact q
  | _ => exact nomatch hp

theorem shaped_of {d : D} (h : shapedD d = true) : ∃ (p : Int) (ws ls : List D), d = .tup [.str (PySem.Str.ofString "circuit"), .int p, .lst ws, .lst ls] ∧ 0 < ls.length ∧ ws.length = ls.length + 1 ∧ ws.all natD = true := by
  unfold shapedD at h
  split at h
  · rename_i s p ws ls
    rw [Bool.and_eq_true, Bool.and_eq_true, Bool.and_eq_true] at h
    obtain ⟨h1, h2, h3, h4⟩ := h
    have e := of_decide_eq_true h1
    subst e
    exact ⟨p, ws, ls, rfl, of_decide_eq_true h2, of_decide_eq_true h3, h4⟩
  · cases h
theorem nats_of : ∀ {ws : List D}, ws.all natD = true → ∃ ns : List Int, ws = ns.map D.int ∧ ∀ n ∈ ns, 0 ≤ n
  | [], _ => ⟨[], rfl, fun n h => by cases h⟩
  | w :: ws, h => by
    rw [List.all_cons, Bool.and_eq_true] at h
    obtain ⟨ns, e, hn⟩ := nats_of h.2
    cases w with
    | int i => exact ⟨i :: ns, by rw [e]; rfl, fun n hm => (List.mem_cons.mp hm).elim (fun z => by rw [z]; exact of_decide_eq_true h.1) (hn n)⟩
    | _ => exact absurd h.1 Bool.false_ne_true
def wI (ws : List D) (i : Nat) : Int := match ws.getD i .non with
  | .int b => b
  | _ => 0
def layCk (p : Int) (ws ls : List D) (i : Nat) : Option String := match ls.getD i .non with
  | .lst gs => if (gs.length : Int) = 2 ^ (wI ws i).toNat then (if (gs.all fun g => gateD g p (2 ^ (wI ws (i + 1)).toNat)) = true then none else some "gate") else some "layer"
  | _ => some "layer"
def Good (n : Int) : Prop := 2 ≤ n ∧ n ≤ 2147483647 ∧ Pr n
noncomputable def good (n : Int) : Bool := @decide (Good n) (Classical.propDecidable _)
theorem good_true {n : Int} (h : Good n) : good n = true := @decide_eq_true _ (Classical.propDecidable _) h
theorem good_false {n : Int} (h : ¬ Good n) : good n = false := @decide_eq_false _ (Classical.propDecidable _) h
def ceD (s : String) : String × List (String × D) := ("CircuitError", [("part", .str (PySem.Str.ofString s))])
def seD (s : String) : String × List (String × D) := ("SizeError", [("limit", .str (PySem.Str.ofString s))])
def ptC (d : D) : Int := match d with
  | .tup [_, .int p, _, _] => p
  | _ => 0
def wsC (d : D) : List D := match d with
  | .tup [_, _, .lst ws, _] => ws
  | _ => []
def lsC (d : D) : List D := match d with
  | .tup [_, _, _, .lst ls] => ls
  | _ => []
/-- what checked raises -/
noncomputable def chkD (d : D) : Option (String × List (String × D)) :=
  if shapedD d = false then some (ceD "circuit")
  else if good (ptC d) = false then some ("FieldError", [("number", .int (ptC d))])
  else if 64 < (lsC d).length then some (seD "layers")
  else if (∃ i, i < (wsC d).length ∧ 8 < wI (wsC d) i) then some (seD "columns")
  else if 4096 < S ((wsC d).length - 1) (fun i => 2 ^ (wI (wsC d) i).toNat) then some (seD "gates")
  else ((List.range (lsC d).length).findSome? (layCk (ptC d) (wsC d) (lsC d))).map ceD
def smallC (d : D) : Prop := (wsC d).length ≤ 1000 ∧ ∀ gs, .lst gs ∈ lsC d → gs.length ≤ 1000
theorem cut_last {xs : List D} : cutD xs none (some (-1)) = xs.dropLast := by
  unfold cutD HT.sIx
  show (xs.drop 0).take ((if (-1 : Int) < 0 then ((-1 : Int) + (xs.length : Int)).toNat else min (-1 : Int).toNat xs.length) - 0) = _
  rw [if_pos (by decide)]
  rw [List.drop_zero, List.dropLast_eq_take]
  congr 1
  omega
theorem wI_map {ns : List Int} {i : Nat} (h : i < ns.length) : wI (ns.map D.int) i = ns[i] := by
  unfold wI
  rw [List.getD_eq_getElem?_getD, List.getElem?_map, List.getElem?_eq_getElem h]
  rfl
theorem sum_take {ns : List Int} {f : Int → Int} : ∀ k, k ≤ ns.length → ((ns.take k).map f).sum = S k fun i => f (wI (ns.map D.int) i)
  | 0, _ => by rw [List.take_zero]; rfl
  | k + 1, h => by
    rw [List.take_succ, List.map_append, List.sum_append, sum_take k (by omega)]
    show _ = S k _ + f (wI (ns.map D.int) k)
    rw [List.getElem?_eq_getElem (by omega), wI_map (by omega)]
    simp
def C_checked : DC := fun ds m Φ Ψ => ∃ d : D, ds = [d] ∧ plD d = true ∧ okE 50 d = true ∧ smallC d ∧ (chkD d = none → Φ d m) ∧ ∀ c fs, chkD d = some (c, fs) → Ψ c fs m
def W_checked : DS := dSeq (dIf (dNot (dB (dCall 1 C_is_shaped (dCons (dVar 0) (dNil))))) (dRaise "CircuitError" ["part"] (dCons (dC (.str (PySem.Str.ofString "circuit"))) (dNil))) (dNext)) (dSeq (dAsg (dVar 0) (dgTup [1, 2, 3, 4])) (dSeq (dDrop (dCall 1 C_check_modulus (dCons (dVar 2) (dNil)))) (dSeq (dIf (dB (dOp oGt (dCB cLen (dCons (dVar 4) (dNil))) ((dC (.int 64))))) (dRaise "SizeError" ["limit"] (dCons (dC (.str (PySem.Str.ofString "layers"))) (dNil))) (dNext)) (dSeq (dIf (dB (dOp oGt (dCB cMaxL (dCons (dVar 3) (dNil))) ((dC (.int 8))))) (dRaise "SizeError" ["limit"] (dCons (dC (.str (PySem.Str.ofString "columns"))) (dNil))) (dNext)) (dSeq (dIf (dB (dOp oGt (dCB cSum (dCons (dLc (diList (dSl (dVar 3) (dpN) (dpS (dUn oNeg (dC (.int 1)))))) (dgName 6) (dYes) (dOp oShl (dC (.int 1)) (dVar 6)) [6]) (dNil))) ((dC (.int 4096))))) (dRaise "SizeError" ["limit"] (dCons (dC (.str (PySem.Str.ofString "gates"))) (dNil))) (dNext)) (dSeq (dFor (diRng1 (dCons (dCB cLen (dCons (dVar 4) (dNil))) (dNil))) (dgName 5) (dSeq (dIf (dOr (dNot (dB (dCB cIsi (dCons (dOp oIx (dVar 4) (dVar 5)) (dCons (dC (.ty "list")) (dNil)))))) (dB (dOp oNe (dCB cLen (dCons (dOp oIx (dVar 4) (dVar 5)) (dNil))) (dOp oShl (dC (.int 1)) (dOp oIx (dVar 3) (dVar 5)))))) (dRaise "CircuitError" ["part"] (dCons (dC (.str (PySem.Str.ofString "layer"))) (dNil))) (dNext)) (dIf (dNot (dB (dCB cAll (dCons (dLc (diList (dOp oIx (dVar 4) (dVar 5))) (dgName 7) (dYes) (dCall 3 C_is_gate (dCons (dVar 7) (dCons (dVar 2) (dCons (dOp oShl (dC (.int 1)) (dOp oIx (dVar 3) (dOp oAdd (dVar 5) (dC (.int 1))))) (dNil))))) [7]) (dNil))))) (dRaise "CircuitError" ["part"] (dCons (dC (.str (PySem.Str.ofString "gate"))) (dNil))) (dNext)))) (dRet (dVar 0))))))))
theorem rd_checked : ∀ ds m Φ Ψ, ds.length = 1 → C_checked ds m Φ Ψ → W_checked { nx := fun _ m' => Φ .non m', rt := Φ } (fun _ => Ψ) (ds.map some ++ List.replicate (8 - ds.length) none) m := by
  intro ds m Φ Ψ _ h
  obtain ⟨d, rfl, hp, ho, hsm, q1, q2⟩ := h
  change W_checked _ _ [some d, none, none, none, none, none, none, none] m
  unfold W_checked
  refine dSeq_k fun k1 h1 => ?_
  walk_at "dx"
  refine ⟨d, rfl, hp, ho, ?_, ?_⟩
  · rintro a b ws e rfl
    exact hsm.1
  cases hs : shapedD d with
  | false =>
    walk_at "dx"
    refine q2 _ _ ?_
    unfold chkD
    rw [if_pos hs]; rfl
  | true =>
    walk_at "dx"
    subst h1
    obtain ⟨p, ws, ls, rfl, l0, l1, hn⟩ := shaped_of hs
    obtain ⟨ns, rfl, hn0⟩ := nats_of hn
    rw [List.length_map] at l1
    have hxs : ∀ v ∈ [.str (PySem.Str.ofString "circuit"), .int p, .lst (ns.map D.int), .lst ls], plD v = true := plDs_mem hp
    have pls : ∀ v ∈ ls, plD v = true := plDs_mem (hxs (.lst ls) (by simp))
    have ols : ∀ v ∈ ls, okE 48 v = true := okE_lst_mem (okE_tup_mem (n := 49) ho (.lst ls) (by simp))
    have hns1000 : ns.length ≤ 1000 := by have := hsm.1; simpa [wsC] using this
    have hgs : ∀ gs, .lst gs ∈ ls → gs.length ≤ 1000 := hsm.2
    have ck : chkD (.tup [.str (PySem.Str.ofString "circuit"), .int p, .lst (ns.map D.int), .lst ls]) = if good p = false then some ("FieldError", [("number", .int p)])
      else if 64 < ls.length then some (seD "layers")
      else if (∃ i, i < ns.length ∧ 8 < wI (ns.map D.int) i) then some (seD "columns")
      else if 4096 < S (ns.length - 1) (fun i => 2 ^ (wI (ns.map D.int) i).toNat) then some (seD "gates")
      else ((List.range ls.length).findSome? (layCk p (ns.map D.int) ls)).map ceD := by
      unfold chkD
      rw [if_neg (by rw [hs]; decide)]
      simp only [ptC, wsC, lsC, List.length_map]
    rw [ck] at q1 q2
    refine dSeq_k fun k1 h1 => ?_
    walk_at "dx"
    subst h1
    refine dSeq_k fun k1 h1 => ?_
    walk_at "dx"
    refine ⟨p, rfl, fun g => ?_, fun g => ?_⟩
    rotate_left
    · refine q2 _ _ ?_
      rw [if_pos (good_false g)]
    have g : Good p := g
    rw [if_neg (by rw [good_true g]; decide)] at q1 q2
    subst h1
    refine dSeq_k fun k1 h1 => ?_
    walk_at "dx"
    by_cases c64 : 64 < ls.length
    · rw [if_pos (by omega)]
      refine q2 _ _ ?_
      rw [if_pos c64]; rfl
    rw [if_neg (by omega)]
    rw [if_neg c64] at q1 q2
    subst h1
    refine dSeq_k fun k1 h1 => ?_
    walk_at "dx"
    refine ⟨ns, ints_map ns, by omega, fun k hk hmax => ?_⟩
    by_cases c8 : 8 < k
    · rw [if_pos c8]
      refine q2 _ _ ?_
      obtain ⟨i, hi, e⟩ := List.mem_iff_getElem.mp hk
      rw [if_pos ⟨i, hi, by rw [wI_map hi, e]; exact c8⟩]; rfl
    rw [if_neg c8]
    have h8 : ∀ i, i < ns.length → 0 ≤ wI (ns.map D.int) i ∧ wI (ns.map D.int) i ≤ 8 := fun i hi => by
      rw [wI_map hi]
      have := hmax _ (List.getElem_mem hi)
      have := hn0 _ (List.getElem_mem hi)
      omega
    rw [if_neg (by rintro ⟨i, hi, z⟩; have := h8 i hi; omega)] at q1 q2
    have h8n : ∀ n ∈ ns, 0 ≤ n ∧ n ≤ 8 := fun n hn => ⟨hn0 n hn, by have := hmax n hn; omega⟩
    subst h1
    refine dSeq_k fun k1 h1 => ?_
    walk_at "dx"
    rw [cut_last, ← List.map_dropLast]
    refine lcW_fn (inj := D.int) (out := D.int) (fun w => 2 ^ w.toNat) m ns.dropLast ?_ (fun _ => rfl) (by rw [List.length_dropLast]; show ns.length - 1 ≤ 16777216; omega) ?_
    · intro w hw m2 Θ hΘ
      have hw2 := h8n w (List.dropLast_subset _ hw)
      walk_at "dx"
      refine ⟨⟨hw2.1, by omega, by decide⟩, ?_⟩
      rw [Int.one_mul]
      exact hΘ
    walk_at "dx"
    refine ⟨_, ints_map _, ?_⟩
    rw [List.dropLast_eq_take, sum_take _ (by omega)]
    by_cases cg : 4096 < S (ns.length - 1) (fun i => 2 ^ (wI (ns.map D.int) i).toNat)
    · rw [if_pos cg]
      refine q2 _ _ ?_
      rw [if_pos cg]; rfl
    rw [if_neg cg]
    rw [if_neg cg] at q1 q2
    subst h1
    refine dSeq_k fun k1 h1 => ?_
    walk_at "dx"
    refine ⟨⟨by omega, by omega⟩, ?_⟩
    rw [rngD0, Int.toNat_natCast]
    refine forW_nat (fun i ρ m' => (∃ v5 v6 v7, ρ = [some (.tup [.str (PySem.Str.ofString "circuit"), .int p, .lst (ns.map D.int), .lst ls]), some (.str (PySem.Str.ofString "circuit")), some (.int p), some (.lst (ns.map D.int)), some (.lst ls), v5, v6, v7]) ∧ m' = m ∧ ∀ j < i, layCk p (ns.map D.int) ls j = none) ?_ ?_ ⟨⟨_, _, _, rfl⟩, rfl, fun j hj => by omega⟩
    · rintro i kk hi hk ρ m' ⟨⟨v5, v6, v7, rfl⟩, rfl, hpre⟩
      have ei : ls[i]? = some ls[i] := List.getElem?_eq_getElem hi
      have ai : atI ls (i : Nat) = some ls[i] := atI_nat ei
      have aw : atI (ns.map D.int) (i : Nat) = some (.int (wI (ns.map D.int) i)) := atI_nat (by rw [List.getElem?_map, List.getElem?_eq_getElem (by omega), wI_map (by omega)]; rfl)
      have aw1 : atI (ns.map D.int) ((i : Nat) + 1) = some (.int (wI (ns.map D.int) (i + 1))) := by
        rw [show ((i : Nat) : Int) + 1 = ((i + 1 : Nat) : Int) by omega]
        exact atI_nat (by rw [List.getElem?_map, List.getElem?_eq_getElem (by omega), wI_map (by omega)]; rfl)
      have hb := h8 i (by omega)
      have hb1 := h8 (i + 1) (by omega)
      have pl := pls _ (List.getElem_mem hi)
      have ol := ols _ (List.getElem_mem hi)
      have gd : ls.getD i .non = ls[i] := by rw [List.getD_eq_getElem?_getD, ei]; rfl
      have bad : ∀ s, layCk p (ns.map D.int) ls i = some s → Ψ "CircuitError" [("part", .str (PySem.Str.ofString s))] m' := fun s e => by
        refine q2 _ _ ?_
        rw [findSome_range hpre hi e]; rfl
      refine dSeq_k fun k2 h2 => ?_
      walk_at "dx"
      refine ⟨ls[i], ai, ?_⟩
      have notl : (∀ gs, ls[i] ≠ .lst gs) → layCk p (ns.map D.int) ls i = some "layer" := fun hh => by
        unfold layCk
        rw [gd]
        split
        · rename_i gs e; exact absurd e (hh gs)
        · rfl
      generalize hL : ls[i] = L at *
      cases L with
      | non => walk_at "dx"; exact bad "layer" (notl fun gs z => by cases z)
      | bl b => walk_at "dx"; exact bad "layer" (notl fun gs z => by cases z)
      | int b => walk_at "dx"; exact bad "layer" (notl fun gs z => by cases z)
      | str b => walk_at "dx"; exact bad "layer" (notl fun gs z => by cases z)
      | tup b => walk_at "dx"; exact bad "layer" (notl fun gs z => by cases z)
      | lst gs =>
        walk_at "dx"
        refine ⟨_, ai, ?_⟩
        walk_at "dx"
        refine ⟨_, aw, ⟨hb.1, by omega, by decide⟩, ?_⟩
        rw [Int.one_mul]
        have hlen := hgs gs (by rw [← hL]; exact List.getElem_mem hi)
        have lk : layCk p (ns.map D.int) ls i = if (gs.length : Int) = 2 ^ (wI (ns.map D.int) i).toNat then (if (gs.all fun g => gateD g p (2 ^ (wI (ns.map D.int) (i + 1)).toNat)) = true then none else some "gate") else some "layer" := by
          unfold layCk
          rw [gd]
        by_cases ce : (gs.length : Int) = 2 ^ (wI (ns.map D.int) i).toNat
        · rw [if_neg (by simpa using ce)]
          rw [if_pos ce] at lk
          subst h2
          walk_at "dx"
          refine ⟨_, ai, ?_⟩
          walk_at "dx"
          refine lcW_fn (inj := id) (out := D.bl) (fun g => gateD g p (2 ^ (wI (ns.map D.int) (i + 1)).toNat)) m' gs ?_ (fun _ => rfl) (by show gs.length ≤ 16777216; omega) ?_ |> fun z => by rwa [List.map_id] at z
          · intro g hg m2 Θ hΘ
            walk_at "dx"
            refine ⟨_, aw1, ⟨hb1.1, by omega, by decide⟩, g, p, _, rfl, plDs_mem pl g hg, okE_mono g (okE_lst_mem (n := 47) ol g hg) (by decide), ?_⟩
            rw [Int.one_mul]
            exact hΘ
          · walk_at "dx"
            refine ⟨_, bls_map _, ?_⟩
            rw [List.all_map]
            have e2 : gs.all (id ∘ fun g => gateD g p (2 ^ (wI (ns.map D.int) (i + 1)).toNat)) = gs.all (fun g => gateD g p (2 ^ (wI (ns.map D.int) (i + 1)).toNat)) := rfl
            rw [e2]
            cases hall : gs.all (fun g => gateD g p (2 ^ (wI (ns.map D.int) (i + 1)).toNat)) with
            | true =>
              rw [if_pos hall] at lk
              walk_at "dx"
              refine hk _ _ ⟨⟨_, _, _, rfl⟩, rfl, fun j hj => ?_⟩
              by_cases ej : j = i
              · rw [ej]; exact lk
              · exact hpre j (by omega)
            | false =>
              rw [if_neg (by rw [hall]; decide)] at lk
              walk_at "dx"
              exact bad "gate" lk
        · rw [if_neg ce] at lk
          rw [if_pos (by simpa using ce)]
          exact bad "layer" lk
      | _ => exact nomatch pl
    · rintro ρ m' ⟨⟨v5, v6, v7, rfl⟩, rfl, hpre⟩
      subst h1
      walk_at "dx"
      refine q1 ?_
      rw [findSome_none hpre]; rfl

inductive Gate where
  | lin (a x b y : Int)
  | mul (c x y : Int)
def gD : Gate → D
  | .lin a x b y => .tup [.str (PySem.Str.ofString "lin"), .int a, .int x, .int b, .int y]
  | .mul c x y => .tup [.str (PySem.Str.ofString "mul"), .int c, .int x, .int y]
def gOK (p cols : Int) : Gate → Prop
  | .lin a x b y => (0 ≤ a ∧ a < p) ∧ (0 ≤ x ∧ x < cols) ∧ (0 ≤ b ∧ b < p) ∧ (0 ≤ y ∧ y < cols)
  | .mul c x y => (0 ≤ c ∧ c < p) ∧ (0 ≤ x ∧ x < cols) ∧ (0 ≤ y ∧ y < cols)
theorem fitsD_ok {i n : Int} (h : 0 ≤ i ∧ i < n) : fitsD (.int i) (n - 1) = true := decide_eq_true (by omega)
theorem gateD_ok {p cols : Int} {g : Gate} (h : gOK p cols g) : gateD (gD g) p cols = true := by
  cases g with
  | lin a x b y =>
    obtain ⟨h1, h2, h3, h4⟩ := h
    show (decide (PySem.Str.ofString "lin" = PySem.Str.ofString "lin") && (fitsD (.int a) (p - 1) && (fitsD (.int b) (p - 1) && (fitsD (.int x) (cols - 1) && fitsD (.int y) (cols - 1))))) = true
    rw [fitsD_ok h1, fitsD_ok h2, fitsD_ok h3, fitsD_ok h4]; simp
  | mul c x y =>
    obtain ⟨h1, h2, h3⟩ := h
    show (decide (PySem.Str.ofString "mul" = PySem.Str.ofString "mul") && (fitsD (.int c) (p - 1) && (fitsD (.int x) (cols - 1) && fitsD (.int y) (cols - 1)))) = true
    rw [fitsD_ok h1, fitsD_ok h2, fitsD_ok h3]; simp
structure Cir where
  p : Int
  ws : List Int
  ls : List (List Gate)
def lD (l : List Gate) : D := .lst (l.map gD)
def cD (c : Cir) : D := .tup [.str (PySem.Str.ofString "circuit"), .int c.p, .lst (c.ws.map D.int), .lst (c.ls.map lD)]
structure CirOK (c : Cir) (most wide : Nat) : Prop where
  pm : PM c.p
  pr : Prim c.p
  l0 : 1 ≤ c.ls.length
  l1 : c.ls.length ≤ most
  wl : c.ws.length = c.ls.length + 1
  w0 : ∀ w ∈ c.ws, 0 ≤ w ∧ w ≤ wide
  ll : ∀ i < c.ls.length, ((c.ls.getD i []).length : Int) = 2 ^ (gi c.ws (i : Nat)).toNat
  gg : ∀ i < c.ls.length, ∀ g ∈ c.ls.getD i [], gOK c.p (2 ^ (gi c.ws ((i + 1 : Nat) : Int)).toNat) g
theorem plD_g (g : Gate) : plD (gD g) = true := by
  cases g with
  | lin a x b y => show (PyData.strOk _ && true) = true; rw [sk_lin]; rfl
  | mul a x b => show (PyData.strOk _ && true) = true; rw [sk_mul]; rfl
theorem okE_g (g : Gate) : okE 1 (gD g) = true := by
  cases g with
  | lin a x b y => show (true && (PyData.strOk _ && true)) = true; rw [sk_lin]; rfl
  | mul a x b => show (true && (PyData.strOk _ && true)) = true; rw [sk_mul]; rfl
theorem plD_l (l : List Gate) : plD (lD l) = true := plDs_of fun d hd => by
  obtain ⟨g, _, rfl⟩ := List.mem_map.mp hd
  exact plD_g g
theorem okE_l (l : List Gate) : okE 2 (lD l) = true := okE_lst fun d hd => by
  obtain ⟨g, _, rfl⟩ := List.mem_map.mp hd
  exact okE_g g
theorem plD_ints (xs : List Int) : plD (.lst (xs.map D.int)) = true := plDs_of fun d hd => by
  obtain ⟨g, _, rfl⟩ := List.mem_map.mp hd
  rfl
theorem plD_c (c : Cir) : plD (cD c) = true := plDs_of fun d hd => by
  simp only [List.mem_cons, List.not_mem_nil, or_false] at hd
  rcases hd with rfl | rfl | rfl | rfl
  · exact sk_circuit
  · rfl
  · exact plD_ints _
  · exact plDs_of fun d hd => by
      obtain ⟨g, _, rfl⟩ := List.mem_map.mp hd
      exact plD_l g
theorem okE_c (c : Cir) : okE 4 (cD c) = true := okE_tup fun d hd => by
  simp only [List.mem_cons, List.not_mem_nil, or_false] at hd
  rcases hd with rfl | rfl | rfl | rfl
  · exact sk_circuit
  · rfl
  · exact okE_ints
  · exact okE_lst fun d hd => by
      obtain ⟨g, _, rfl⟩ := List.mem_map.mp hd
      exact okE_l g
theorem wI_gi {ns : List Int} {i : Nat} (h : i < ns.length) : wI (ns.map D.int) i = gi ns (i : Nat) := by
  rw [wI_map h, gi_nat, List.getD_eq_getElem?_getD, List.getElem?_eq_getElem h]; rfl
theorem shapedD_c {c : Cir} {most wide : Nat} (h : CirOK c most wide) : shapedD (cD c) = true := by
  show (decide (PySem.Str.ofString "circuit" = PySem.Str.ofString "circuit") && (decide (0 < (c.ls.map lD).length) && (decide ((c.ws.map D.int).length = (c.ls.map lD).length + 1) && (c.ws.map D.int).all natD))) = true
  have h1 := h.l0
  have h2 := h.wl
  rw [List.length_map, List.length_map, decide_eq_true (by omega : 0 < c.ls.length), decide_eq_true h2, List.all_map]
  simp only [decide_true, Bool.true_and, List.all_eq_true]
  intro w hw
  exact decide_eq_true (h.w0 w hw).1
theorem S_le {f : Nat → Int} {b : Int} : ∀ n : Nat, (∀ i < n, f i ≤ b) → S n f ≤ n * b
  | 0, _ => by show (0 : Int) ≤ _; simp
  | n + 1, h => by
    have z := S_le n fun i hi => h i (by omega)
    have z2 := h n (by omega)
    show S n f + f n ≤ ((n + 1 : Nat) : Int) * b
    rw [show ((n + 1 : Nat) : Int) = (n : Int) + 1 by omega, Int.add_mul]
    omega
theorem prim_Good {p : Int} (hp : PM p) (P : Prim p) : Good p := ⟨hp.1, hp.2, prim_Pr P⟩
theorem pow_le8 {w : Int} {wide : Nat} (h : 0 ≤ w ∧ w ≤ wide) (hw : wide ≤ 3) : (2 : Int) ^ w.toNat ≤ 8 ∧ 1 ≤ (2 : Int) ^ w.toNat := by
  have : w = 0 ∨ w = 1 ∨ w = 2 ∨ w = 3 := by omega
  rcases this with rfl | rfl | rfl | rfl <;> exact ⟨by decide, by decide⟩
theorem gi_mem {xs : List Int} {i : Nat} (h : i < xs.length) : gi xs (i : Nat) ∈ xs := by
  rw [gi_nat, List.getD_eq_getElem?_getD, List.getElem?_eq_getElem h]
  exact List.getElem_mem h
theorem layCk_ok {c : Cir} {most wide : Nat} (h : CirOK c most wide) {i : Nat} (hi : i < c.ls.length) : layCk c.p (c.ws.map D.int) (c.ls.map lD) i = none := by
  unfold layCk
  have e : (c.ls.map lD).getD i .non = lD (c.ls.getD i []) := by
    rw [List.getD_eq_getElem?_getD, List.getElem?_map, List.getElem?_eq_getElem hi, List.getD_eq_getElem?_getD, List.getElem?_eq_getElem hi]; rfl
  have hw := h.wl
  rw [e, wI_gi (by omega), wI_gi (by omega)]
  show (if ((((c.ls.getD i []).map gD).length : Nat) : Int) = _ then _ else _) = none
  rw [List.length_map, if_pos (h.ll i hi), if_pos]
  rw [List.all_map, List.all_eq_true]
  intro g hg
  exact gateD_ok (h.gg i hi g hg)
theorem chkD_c {c : Cir} {most wide : Nat} (h : CirOK c most wide) (hm : most ≤ 4) (hw : wide ≤ 3) : chkD (cD c) = none := by
  have hl1 := h.l1
  have hwl := h.wl
  unfold chkD
  rw [if_neg (by rw [shapedD_c h]; decide), if_neg (by rw [show ptC (cD c) = c.p from rfl, good_true (prim_Good h.pm h.pr)]; decide)]
  rw [show lsC (cD c) = c.ls.map lD from rfl, show wsC (cD c) = c.ws.map D.int from rfl, show ptC (cD c) = c.p from rfl, List.length_map, List.length_map, if_neg (by omega)]
  have hb : ∀ i, i < c.ws.length → 0 ≤ wI (c.ws.map D.int) i ∧ wI (c.ws.map D.int) i ≤ wide := fun i hi => by
    rw [wI_gi hi]
    exact h.w0 _ (gi_mem hi)
  rw [if_neg (by rintro ⟨i, hi, z⟩; have := hb i hi; omega), if_neg]
  · rw [findSome_none fun j hj => layCk_ok h hj]; rfl
  · have := S_le (f := fun i => 2 ^ (wI (c.ws.map D.int) i).toNat) (b := 8) (c.ws.length - 1) fun i hi => (pow_le8 (hb i (by omega)) hw).1
    omega
theorem smallC_c {c : Cir} {most wide : Nat} (h : CirOK c most wide) (hm : most ≤ 4) (hw : wide ≤ 3) : smallC (cD c) := by
  have hl1 := h.l1
  have hwl := h.wl
  refine ⟨by rw [show wsC (cD c) = c.ws.map D.int from rfl, List.length_map]; omega, fun gs hgs => ?_⟩
  have hgs : D.lst gs ∈ c.ls.map lD := hgs
  obtain ⟨l, hl, e⟩ := List.mem_map.mp hgs
  have e : D.lst (l.map gD) = D.lst gs := e
  cases e
  obtain ⟨i, hi, rfl⟩ := List.mem_iff_getElem.mp hl
  have z := h.ll i hi
  rw [List.getD_eq_getElem?_getD, List.getElem?_eq_getElem hi] at z
  have z2 := (pow_le8 (h.w0 _ (gi_mem (show i < c.ws.length by omega))) hw).1
  rw [List.length_map]
  have z : ((c.ls[i].length : Nat) : Int) = _ := z
  omega
def C_modulus : DC := fun ds m Φ _ => ∃ a b c e : D, ds = [.tup [a, b, c, e]] ∧ Φ b m
def W_modulus : DS := dRet (dOp oIx (dVar 0) (dC (.int 1)))
theorem rd_modulus : ∀ ds m Φ Ψ, ds.length = 1 → C_modulus ds m Φ Ψ → W_modulus { nx := fun _ m' => Φ .non m', rt := Φ } (fun _ => Ψ) (ds.map some ++ List.replicate (1 - ds.length) none) m := by
  intro ds m Φ Ψ _ h
  obtain ⟨a, b, c, e, rfl, q⟩ := h
  change W_modulus _ _ [some (.tup [a, b, c, e])] m
  unfold W_modulus
  walk_at "dx"
  exact ⟨b, rfl, q⟩
def C_depth : DC := fun ds m Φ _ => ∃ (a b c : D) (ls : List D), ds = [.tup [a, b, c, .lst ls]] ∧ Φ (.int (ls.length : Nat)) m
def W_depth : DS := dRet (dCB cLen (dCons (dOp oIx (dVar 0) (dC (.int 3))) (dNil)))
theorem rd_depth : ∀ ds m Φ Ψ, ds.length = 1 → C_depth ds m Φ Ψ → W_depth { nx := fun _ m' => Φ .non m', rt := Φ } (fun _ => Ψ) (ds.map some ++ List.replicate (1 - ds.length) none) m := by
  intro ds m Φ Ψ _ h
  obtain ⟨a, b, c, ls, rfl, q⟩ := h
  change W_depth _ _ [some (.tup [a, b, c, .lst ls])] m
  unfold W_depth
  walk_at "dx"
  refine ⟨.lst ls, rfl, ?_⟩
  walk_at "dx"
  exact q
def C_width : DC := fun ds m Φ _ => ∃ (a b e v : D) (ws : List D) (i : Int), ds = [.tup [a, b, .lst ws, e], .int i] ∧ atI ws i = some v ∧ Φ v m
def W_width : DS := dRet (dOp oIx (dOp oIx (dVar 0) (dC (.int 2))) (dVar 1))
theorem rd_width : ∀ ds m Φ Ψ, ds.length = 2 → C_width ds m Φ Ψ → W_width { nx := fun _ m' => Φ .non m', rt := Φ } (fun _ => Ψ) (ds.map some ++ List.replicate (2 - ds.length) none) m := by
  intro ds m Φ Ψ _ h
  obtain ⟨a, b, e, v, ws, i, rfl, hv, q⟩ := h
  change W_width _ _ [some (.tup [a, b, .lst ws, e]), some (.int i)] m
  unfold W_width
  walk_at "dx"
  refine ⟨.lst ws, rfl, ?_⟩
  walk_at "dx"
  exact ⟨v, hv, q⟩
def C__law_gate : DC := fun ds m Φ _ => ∃ p cols : Int, ds = [.st 1, .int p, .int cols] ∧ m.s = 1 ∧ (0 < p ∧ p < 2 ^ 40) ∧ (0 < cols ∧ cols < 2 ^ 40) ∧ ∀ g, gOK p cols g → Φ (gD g) m
def W__law_gate : DS := dSeq (dIf (dB (dOp oEq (dCall 2 C_take (dCons (dVar 0) (dCons (dC (.int 2)) (dNil)))) (dC (.int 0)))) (dRet (dTup (dCons (dC (.str (PySem.Str.ofString "mul"))) (dCons (dCall 2 C_take (dCons (dVar 0) (dCons (dVar 1) (dNil)))) (dCons (dCall 2 C_take (dCons (dVar 0) (dCons (dVar 2) (dNil)))) (dCons (dCall 2 C_take (dCons (dVar 0) (dCons (dVar 2) (dNil)))) (dNil))))))) (dNext)) (dRet (dTup (dCons (dC (.str (PySem.Str.ofString "lin"))) (dCons (dCall 2 C_take (dCons (dVar 0) (dCons (dVar 1) (dNil)))) (dCons (dCall 2 C_take (dCons (dVar 0) (dCons (dVar 2) (dNil)))) (dCons (dCall 2 C_take (dCons (dVar 0) (dCons (dVar 1) (dNil)))) (dCons (dCall 2 C_take (dCons (dVar 0) (dCons (dVar 2) (dNil)))) (dNil))))))))
theorem rd__law_gate : ∀ ds m Φ Ψ, ds.length = 3 → C__law_gate ds m Φ Ψ → W__law_gate { nx := fun _ m' => Φ .non m', rt := Φ } (fun _ => Ψ) (ds.map some ++ List.replicate (3 - ds.length) none) m := by
  intro ds m Φ Ψ _ h
  obtain ⟨p, cols, rfl, hs, ⟨p0, p1⟩, ⟨c0, c1⟩, q⟩ := h
  change W__law_gate _ _ [some (.st 1), some (.int p), some (.int cols)] m
  unfold W__law_gate
  refine dSeq_k fun k1 h1 => ?_
  walk_at "dx"
  refine ⟨2, rfl, hs, by decide, by decide, fun r r0 r1 => ?_⟩
  walk_at "dx"
  by_cases hr : r = 0
  · rw [if_pos hr]
    refine ⟨p, rfl, hs, p0, by omega, fun a a0 a1 => ?_⟩
    refine ⟨cols, rfl, hs, c0, by omega, fun x x0 x1 => ?_⟩
    refine ⟨cols, rfl, hs, c0, by omega, fun y y0 y1 => ⟨by decide, ?_⟩⟩
    exact q (.mul a x y) ⟨⟨a0, a1⟩, ⟨x0, x1⟩, y0, y1⟩
  · rw [if_neg hr]
    subst h1
    walk_at "dx"
    refine ⟨p, rfl, hs, p0, by omega, fun a a0 a1 => ?_⟩
    refine ⟨cols, rfl, hs, c0, by omega, fun x x0 x1 => ?_⟩
    refine ⟨p, rfl, hs, p0, by omega, fun b b0 b1 => ?_⟩
    refine ⟨cols, rfl, hs, c0, by omega, fun y y0 y1 => ⟨by decide, ?_⟩⟩
    exact q (.lin a x b y) ⟨⟨a0, a1⟩, ⟨x0, x1⟩, ⟨b0, b1⟩, y0, y1⟩
theorem all2_len {α : Type} {P : α → Prop} {n : Nat} {ys : List α} (h : All2 (fun _ y => P y) (List.range n) ys) : ys.length = n := by
  rw [← h.length, List.length_range]
theorem all2_mem {α β : Type} {P : α → Prop} : ∀ {xs : List β} {ys : List α}, All2 (fun _ y => P y) xs ys → ∀ y ∈ ys, P y
  | _, _, .nil, y, hy => by cases hy
  | _, _, .cons a h, y, hy => by
    rcases List.mem_cons.mp hy with e | e
    · rw [e]; exact a
    · exact all2_mem h y e
def C__law_circuit : DC := fun ds m Φ _ => ∃ most wide : Nat, ds = [.st 1, .int most, .int wide] ∧ m.s = 1 ∧ 1 ≤ most ∧ most ≤ 4 ∧ wide ≤ 3 ∧ ∀ c, CirOK c most wide → 5 ≤ c.p → c.p ≤ 53 → Φ (cD c) m
def W__law_circuit : DS := dSeq (dSet 3 (dOp oIx (dLst (dCons (dC (.int 5)) (dCons (dC (.int 7)) (dCons (dC (.int 11)) (dCons (dC (.int 13)) (dCons (dC (.int 53)) (dNil))))))) (dCall 2 C_take (dCons (dVar 0) (dCons (dC (.int 5)) (dNil)))))) (dSeq (dSet 4 (dOp oAdd (dC (.int 1)) (dCall 2 C_take (dCons (dVar 0) (dCons (dVar 1) (dNil)))))) (dSeq (dSet 5 (dLc (diRng1 (dCons (dOp oAdd (dVar 4) (dC (.int 1))) (dNil))) (dgName 8) (dYes) (dCall 2 C_take (dCons (dVar 0) (dCons (dOp oAdd (dVar 2) (dC (.int 1))) (dNil)))) [8])) (dSeq (dSet 6 (dLstM (dNil))) (dSeq (dFor (diRng1 (dCons (dVar 4) (dNil))) (dgName 7) (dDrop (dMethL oApp (dVar 6) (dCons (dLc (diRng1 (dCons (dOp oShl (dC (.int 1)) (dOp oIx (dVar 5) (dVar 7))) (dNil))) (dgName 8) (dYes) (dCall 3 C__law_gate (dCons (dVar 0) (dCons (dVar 3) (dCons (dOp oShl (dC (.int 1)) (dOp oIx (dVar 5) (dOp oAdd (dVar 7) (dC (.int 1))))) (dNil))))) [8]) (dNil))))) (dFrz 6 (dRet (dTup (dCons (dC (.str (PySem.Str.ofString "circuit"))) (dCons (dVar 3) (dCons (dVar 5) (dCons (dVar 6) (dNil))))))))))))
theorem rd__law_circuit : ∀ ds m Φ Ψ, ds.length = 3 → C__law_circuit ds m Φ Ψ → W__law_circuit { nx := fun _ m' => retQ m Φ .non m', rt := retQ m Φ } (fun _ => retX m Ψ) (ds.map some ++ List.replicate (9 - ds.length) none) m := by
  intro ds m Φ Ψ _ h
  obtain ⟨most, wide, rfl, hs, hm1, hm4, hw3, q⟩ := h
  change W__law_circuit _ _ [some (.st 1), some (.int most), some (.int wide), none, none, none, none, none, none] m
  unfold W__law_circuit
  refine dSeq_k fun k1 h1 => ?_
  walk_at "dx"
  refine ⟨by decide, 5, rfl, hs, by decide, by decide, fun r r0 r1 => ?_⟩
  obtain ⟨p, hp, pm, P, p5, p53⟩ : ∃ p : Int, atI [D.int 5, .int 7, .int 11, .int 13, .int 53] r = some (.int p) ∧ PM p ∧ Prim p ∧ 5 ≤ p ∧ p ≤ 53 := by
    have : r = 0 ∨ r = 1 ∨ r = 2 ∨ r = 3 ∨ r = 4 := by omega
    rcases this with rfl | rfl | rfl | rfl | rfl
    · exact ⟨5, rfl, ⟨by decide, by decide⟩, prim_5, by decide, by decide⟩
    · exact ⟨7, rfl, ⟨by decide, by decide⟩, prim_7, by decide, by decide⟩
    · exact ⟨11, rfl, ⟨by decide, by decide⟩, prim_11, by decide, by decide⟩
    · exact ⟨13, rfl, ⟨by decide, by decide⟩, prim_13, by decide, by decide⟩
    · exact ⟨53, rfl, ⟨by decide, by decide⟩, prim_chk (p := 53) (k := 3) (by decide +kernel), by decide, by decide⟩
  refine ⟨.int p, hp, ?_⟩
  subst h1
  refine dSeq_k fun k1 h1 => ?_
  walk_at "dx"
  refine ⟨most, rfl, hs, by omega, by omega, fun n n0 n1 => ?_⟩
  obtain ⟨n, rfl⟩ := Int.eq_ofNat_of_zero_le n0
  subst h1
  refine dSeq_k fun k1 h1 => ?_
  walk_at "dx"
  refine ⟨⟨by omega, by omega⟩, ?_⟩
  rw [rngD0, show (1 + (n : Int) + 1).toNat = n + 2 by omega]
  refine lcW_any (inj := fun i : Nat => D.int (i : Nat)) (out := D.int) (fun _ y => 0 ≤ y ∧ y ≤ wide) m ?_ (fun _ => rfl) (List.range (n + 2)) [] (by rw [List.length_range]; show 0 + (n + 2) ≤ 16777216; omega) fun ws hws => ?_
  · intro x m' Θ hs' hΘ
    walk_at "dx"
    exact ⟨(wide : Int) + 1, rfl, by rw [hs']; exact hs, by omega, by omega, fun y y0 y1 => hΘ y ⟨y0, by omega⟩⟩
  have wl := all2_len hws
  have w0 := all2_mem hws
  rw [List.nil_append]
  subst h1
  refine dSeq_k fun k1 h1 => ?_
  walk_at "dx"
  refine ⟨by decide, ?_⟩
  subst h1
  refine dSeq_k fun k1 h1 => ?_
  walk_at "dx"
  refine ⟨⟨by omega, by omega⟩, ?_⟩
  rw [rngD0, show (1 + (n : Int)).toNat = n + 1 by omega]
  refine forW_nat (fun i ρ m' => ∃ (ls : List (List Gate)) (v7 v8 : Option D), ρ = [some (.st 1), some (.int most), some (.int wide), some (.int p), some (.int (1 + (n : Int))), some (.lst (ws.map D.int)), some (.hnd m.M.length), v7, v8] ∧ m' = ⟨m.M ++ [MO.lst (ls.map lD)], m.s⟩ ∧ ls.length = i ∧
    (∀ j < i, ((ls.getD j []).length : Int) = 2 ^ (gi ws (j : Nat)).toNat) ∧ ∀ j < i, ∀ g ∈ ls.getD j [], gOK p (2 ^ (gi ws ((j + 1 : Nat) : Int)).toNat) g) ?_ ?_ ⟨[], _, _, rfl, rfl, rfl, fun j hj => by omega, fun j hj => by omega⟩
  · rintro i kk hi hk ρ m' ⟨ls, v7, v8, rfl, rfl, hl, ha, hb⟩
    have h1 := w0 _ (gi_mem (xs := ws) (i := i) (by omega))
    have h2 := w0 _ (gi_mem (xs := ws) (i := i + 1) (by omega))
    have e1 := (pow_le8 h1 hw3)
    have e2 := (pow_le8 h2 hw3)
    have a1 : atI (ws.map D.int) (i : Nat) = some (.int (gi ws (i : Nat))) := atI_gi (by omega) (by omega)
    have a2 : atI (ws.map D.int) ((i : Nat) + 1) = some (.int (gi ws ((i + 1 : Nat) : Int))) := by
      rw [show ((i : Nat) : Int) + 1 = ((i + 1 : Nat) : Int) by omega]
      exact atI_gi (by omega) (by omega)
    walk_at "dx"
    refine ⟨_, a1, ⟨h1.1, by omega, by decide⟩, ?_⟩
    rw [Int.one_mul]
    refine ⟨⟨by omega, by omega⟩, ?_⟩
    rw [rngD0]
    refine lcW_any (inj := fun i : Nat => D.int (i : Nat)) (out := gD) (fun _ g => gOK p (2 ^ (gi ws ((i + 1 : Nat) : Int)).toNat) g) _ ?_ (fun g => clD_pl _ (plD_g g)) (List.range (2 ^ (gi ws (i : Nat)).toNat : Int).toNat) [] (by rw [List.length_range]; show 0 + _ ≤ 16777216; omega) fun l hl2 => ?_
    · intro x m' Θ hs' hΘ
      walk_at "dx"
      refine ⟨_, a2, ⟨h2.1, by omega, by decide⟩, p, _, rfl, by rw [hs']; exact hs, ⟨by omega, by omega⟩, ?_, ?_⟩
      · rw [Int.one_mul]; exact ⟨by omega, by omega⟩
      · intro g hg
        rw [Int.one_mul] at hg
        exact hΘ g hg
    · rw [List.nil_append]
      walk_at "dx"
      have ll := all2_len hl2
      have lg := all2_mem hl2
      refine ⟨by rw [hl]; show i < 16777216; omega, hk _ _ ⟨ls ++ [l], _, _, rfl, by rw [List.map_append]; rfl, by rw [List.length_append, hl]; rfl, fun j hj => ?_, fun j hj => ?_⟩⟩
      · rw [List.getD_eq_getElem?_getD, List.getElem?_append]
        by_cases e : j < ls.length
        · rw [if_pos e, ← List.getD_eq_getElem?_getD]; exact ha j (by omega)
        · have : j = i := by omega
          subst this
          rw [if_neg e, hl, Nat.sub_self]
          show ((l.length : Nat) : Int) = _
          omega
      · rw [List.getD_eq_getElem?_getD, List.getElem?_append]
        by_cases e : j < ls.length
        · rw [if_pos e, ← List.getD_eq_getElem?_getD]; exact hb j (by omega)
        · have : j = i := by omega
          subst this
          rw [if_neg e, hl, Nat.sub_self]
          exact lg
  · rintro ρ m' ⟨ls, v7, v8, rfl, rfl, hl, ha, hb⟩
    subst h1
    unfold dFrz
    walk_at "dx"
    refine ⟨by decide, ?_⟩
    refine retQ_dead ?_ ?_
    · exact clD_pl _ (plD_c ⟨p, ws, ls⟩)
    · exact q ⟨p, ws, ls⟩ ⟨pm, P, by show 1 ≤ ls.length; omega, by show ls.length ≤ most; omega, by show ws.length = ls.length + 1; omega, w0, fun i hi => ha i (by have : i < ls.length := hi; omega), fun i hi => hb i (by have : i < ls.length := hi; omega)⟩ p5 p53
end Dl

namespace Dl
open PySem L2
local macro_rules | `(tactic| walk_at "dl") => `(tactic| try simp only [dSeq, dSet, dRaise_one, dRaise_two, dTryAs, dXf, dIsE, List.lookup_cons, List.lookup_nil, beq_self_eq_true, Bool.false_eq_true, if_false, dOp, dUn, dVar, dC, dCB, dCons, dNil, dRet, dRetN, dIf, dB, dAnd, dOr, dNot, dDrop, dNext, dMethL, dSetIx, dAndV, dOrV, dNotV, dBlV, dIfE, dLst, dTup, dLstM, dCall, dChain, dAsg, dgName, dgTup, bindD, asT, dFor, diList, diRng1, diRng2, diEnumerate, diZip, diReversed, dLc, dLcM, dYes, wipeD, dAug, dSl, dSlT, dpN, dpS,
  oI, oI0, oB0, oAdd, oNeg, oEq, oNe, oIx, oIsN, oNotN, isNon, oShl, oApp, oPop, oPopAt, cLen, cInt, cAbs, cSum, cMax2, cMin2, cList, cIsi, tyD, asL, asF, asK, moL_lst, ModC, DivC,
  List.getElem?_cons_zero, List.getElem?_cons_succ, List.set_cons_zero, List.set_cons_succ, List.getElem?_nil, List.length_cons, List.length_nil, List.length_map, Option.map_some, Option.bind_some, Option.isSome_some, if_true, true_and, and_true, MM.push])
local macro_rules | `(tactic| walk_at "dx") => `(tactic| try simp only [eq_self_iff_true, okE_int, okE_bl, okE_non, eqD_int, eqD_bl, kq_NoneType_int, kq_NoneType_bool, kq_NoneType_list, kq_NoneType_tuple, kq_NoneType_str, kq_bool_int, kq_bool_bool, kq_bool_list, kq_bool_tuple, kq_bool_str, kq_int_int, kq_int_bool, kq_int_list, kq_int_tuple, kq_int_str, kq_str_int, kq_str_bool, kq_str_list, kq_str_tuple, kq_str_str, kq_list_int, kq_list_bool, kq_list_list, kq_list_tuple, kq_list_str, kq_tuple_int, kq_tuple_bool, kq_tuple_list, kq_tuple_tuple, kq_tuple_str, oInL, oIsB, oNotB, oEqH, oNeH, oShr, oExt, cMaxL, cMinL, cAny, cAll, cTuple, cListM, dRevL, dFld, dSetF, dAugF, dMeth, dMake, moI_ins, app_len, set_app, List.contains_cons, List.contains_nil, Bool.true_or,  Bool.true_eq_false, decide_true, not_true_eq_false, not_false_eq_true, Bool.not_true, Bool.not_false, decide_eq_true_eq, Bool.not_eq_true', decide_eq_false_iff_not, dSeq, dSet, dRaise_one, dRaise_two, dTryAs, dXf, dIsE, List.lookup_cons, List.lookup_nil, beq_self_eq_true, Bool.false_eq_true, if_false, dOp, dUn, dVar, dC, dCB, dCons, dNil, dRet, dRetN, dIf, dB, dAnd, dOr, dNot, dDrop, dNext, dMethL, dSetIx, dAndV, dOrV, dNotV, dBlV, dIfE, dLst, dTup, dLstM, dCall, dChain, dAsg, dgName, dgTup, bindD, asT, dFor, diList, diRng1, diRng2, diEnumerate, diZip, diReversed, dLc, dLcM, dYes, wipeD, dAug, dSl, dSlT, dpN, dpS,
  oI, oI0, oB0, oAdd, oNeg, oEq, oNe, oIx, oIsN, oNotN, isNon, oShl, oApp, oPop, oPopAt, cLen, cInt, cAbs, cSum, cMax2, cMin2, cList, cIsi, tyD, asL, asF, asK, moL_lst, ModC, DivC,
  List.getElem?_cons_zero, List.getElem?_cons_succ, List.set_cons_zero, List.set_cons_succ, List.getElem?_nil, List.length_cons, List.length_nil, List.length_map, Option.map_some, Option.bind_some, Option.isSome_some, if_true, true_and, and_true, MM.push])
local macro_rules | `(tactic| walk_at "lim") => `(tactic| repeat (first | (refine ⟨by decide, ?_⟩) | (refine ⟨by (try simp only [List.length_map, List.length_dropLast, List.length_append, List.length_cons, List.length_nil, List.length_replicate, List.length_take, List.length_drop, List.length_range]); (show _ ≤ 16777216); omega, ?_⟩)))

set_option hygiene false in
local macro_rules | `(tactic| walk_at "stp") => `(tactic| (refine dSeq_k fun k1 h1 => ?_; walk_at "dx"))
set_option hygiene false in
local macro_rules | `(tactic| walk_at "nxt") => `(tactic| (subst h1; (try dsimp only); refine dSeq_k fun k1 h1 => ?_; walk_at "dx"))
set_option hygiene false in
local macro_rules | `(tactic| walk_at "lst") => `(tactic| (subst h1; (try dsimp only); walk_at "dx"))
set_option hygiene false in
local macro_rules | `(tactic| walk_at "nxt2") => `(tactic| (subst h2; (try dsimp only); refine dSeq_k fun k2 h2 => ?_; walk_at "dx"))
set_option hygiene false in
local macro_rules | `(tactic| walk_at "stp2") => `(tactic| (refine dSeq_k fun k2 h2 => ?_; walk_at "dx"))
set_option hygiene false in
local macro_rules | `(tactic| walk_at "lst2") => `(tactic| (subst h2; (try dsimp only); walk_at "dx"))

/-! ### a comprehension whose items look at what changes -/
theorem lcW_fnM {α β : Type} {inj : α → D} {out : β → D} {g : DG} {te : DE} {ρ : Dl.Env} {Φ : D → MM → Prop} (f : α → β) (m : MM) (xs : List α)
    (hg : ∀ x ∈ xs, ∀ (acc : List D) (Θ : D → MM → Prop), Θ (out (f x)) (m.push (.lst acc)) → g (inj x) ρ (m.push (.lst acc)) (fun ρ1 m1 => m1 = m.push (.lst acc) ∧ te ρ1 (m.push (.lst acc)) Θ XF)) (hc : ∀ y, clD m.M.length (out y) = true) (hl : xs.length ≤ LIM) (h : Φ (.lst ((xs.map f).map out)) m) :
    lcW g dYes te ρ Φ (xs.map inj) [] m := by
  have key : ∀ (ys : List α), (∀ x ∈ ys, x ∈ xs) → ∀ (acc : List D), acc.length + ys.length ≤ LIM → Φ (.lst (acc ++ (ys.map f).map out)) m → lcW g dYes te ρ Φ (ys.map inj) acc m := by
    intro ys
    induction ys with
    | nil => intro _ acc _ h; rw [List.map_nil, List.map_nil, List.append_nil] at h; exact h
    | cons x ys ih =>
      intro hx acc hl h
      rw [List.length_cons] at hl
      have z := hg x (hx x List.mem_cons_self) acc (fun y m3 => m3 = m.push (.lst acc) ∧ acc.length < LIM ∧ clD m.M.length y = true ∧ lcW g dYes te ρ Φ (ys.map inj) (acc ++ [y]) m) ⟨rfl, by omega, hc _, ih (fun y hy => hx y (List.mem_cons_of_mem _ hy)) (acc ++ [out (f x)]) (by rw [List.length_append, List.length_singleton]; omega) (by
        rw [List.map_cons, List.map_cons] at h
        rw [List.append_assoc]
        exact h)⟩
      have key : (fun (ρ1 : Dl.Env) (m1 : MM) => m1 = m.push (.lst acc) ∧ te ρ1 (m.push (.lst acc)) (fun y m3 => m3 = m.push (.lst acc) ∧ acc.length < LIM ∧ clD m.M.length y = true ∧ lcW g dYes te ρ Φ (ys.map inj) (acc ++ [y]) m) XF)
          = (fun ρ1 m1 => m1 = m.push (.lst acc) ∧ dYes ρ1 (m.push (.lst acc)) (fun b m2 => m2 = m.push (.lst acc) ∧ if b = true then te ρ1 (m.push (.lst acc)) (fun y m3 => m3 = m.push (.lst acc) ∧ acc.length < LIM ∧ clD m.M.length y = true ∧ lcW g dYes te ρ Φ (ys.map inj) (acc ++ [y]) m) XF
            else lcW g dYes te ρ Φ (ys.map inj) acc m) XF) := by
        funext ρ1 m1
        unfold dYes
        simp
      rw [key] at z
      exact z
  exact key xs (fun x h => h) [] (by rw [List.length_nil]; omega) (by rw [List.nil_append]; exact h)
theorem app_at {M : List MO} {L : List MO} {x : MO} {n : Nat} (h : n = M.length) : (M ++ x :: L)[n]? = some x := by subst h; rw [List.getElem?_append_right (Nat.le_refl _)]; simp
/-! ### rows, runs -/
theorem app_len2 {M L : List MO} {x : MO} : (M ++ x :: L)[M.length]? = some x := by rw [List.getElem?_append_right (Nat.le_refl _)]; simp
theorem set_app2 {M L : List MO} {x z : MO} : (M ++ x :: L).set M.length z = M ++ z :: L := by rw [List.set_append_right _ _ (Nat.le_refl _)]; simp
theorem shl1 (b : Nat) : (1 : Int) * 2 ^ ((b : Nat) : Int).toNat = ((2 ^ b : Nat) : Int) := by
  rw [Int.one_mul, Int.toNat_natCast]
  simp
theorem cpow_ok {b : Nat} (h : b ≤ 1000) : CPow 1 (b : Nat) := ⟨by omega, by omega, by decide⟩
def C_row_bits : DC := fun ds m Φ _ => ∃ xs : List D, ds = [.lst xs] ∧ xs.length ≤ 100000 ∧ ∀ b : Nat, xs.length ≤ 2 ^ b → (∀ b' < b, 2 ^ b' < xs.length) → Φ (.int (b : Nat)) m
def W_row_bits : DS := dSeq (dSet 1 (dC (.int 0))) (dSeq (dWhile (dB (dOp oLt (dOp oShl (dC (.int 1)) (dVar 1)) (dCB cLen (dCons (dVar 0) (dNil))))) (dAug 1 (oI0 fun i j => i + j) (dC (.int 1)))) (dRet (dVar 1)))
theorem rd_row_bits : ∀ ds m Φ Ψ, ds.length = 1 → C_row_bits ds m Φ Ψ → W_row_bits { nx := fun _ m' => Φ .non m', rt := Φ } (fun _ => Ψ) (ds.map some ++ List.replicate (2 - ds.length) none) m := by
  intro ds m Φ Ψ _ h
  obtain ⟨xs, rfl, hl, q⟩ := h
  change W_row_bits _ _ [some (.lst xs), none] m
  unfold W_row_bits
  refine dSeq_k fun k1 h1 => ?_
  walk_at "dx"
  subst h1
  refine dSeq_k fun k1 h1 => ?_
  refine ⟨fun c ρ m' => ∃ b : Nat, c + b = 20 ∧ ρ = [some (.lst xs), some (.int (b : Nat))] ∧ m' = m ∧ ∀ b' < b, 2 ^ b' < xs.length, ⟨20, 0, rfl, rfl, rfl, fun b' hb => by omega⟩, ?_⟩
  rintro c ρ m' ⟨b, hc, rfl, rfl, hb⟩
  walk_at "dx"
  rw [shl1]
  refine ⟨cpow_ok (by omega), ?_⟩
  by_cases hlt : 2 ^ b < xs.length
  · rw [if_pos (by omega)]
    have b17 : b < 17 := by
      rcases Nat.lt_or_ge b 17 with z | z
      · exact z
      · have := Nat.pow_le_pow_right (n := 2) (by decide) z
        omega
    exact ⟨c - 1, by omega, b + 1, by omega, by rw [show ((b : Nat) : Int) + 1 = ((b + 1 : Nat) : Int) by omega], fun b' hb' => by
      by_cases e : b' = b
      · rw [e]; exact hlt
      · exact hb b' (by omega)⟩
  · rw [if_neg (by omega)]
    subst h1
    walk_at "dx"
    exact q b (by omega) hb
/-- rows of numbers of the right length -/
def rowOK (p : Int) (n : Int) (d : D) : Bool := match d with
  | .lst ys => decide ((ys.length : Int) = n) && ys.all fun y => fitsD y (p - 1)
  | _ => false
def pow2 (n : Nat) : Prop := ∃ b : Nat, n = 2 ^ b
def colsC (c : Cir) (i : Nat) : Int := 2 ^ (gi c.ws (i : Nat)).toNat
noncomputable def chkR (c : Cir) (rows : D) : Option (String × List (String × D)) := match rows with
  | .lst xs => if @decide (pow2 xs.length) (Classical.propDecidable _) = false then some (ceD "rows") else if 1024 < xs.length then some (seD "rows") else if xs.all (rowOK c.p (colsC c c.ls.length)) = true then none else some (ceD "row")
  | _ => some (ceD "rows")
def smallR (rows : D) : Prop := ∀ xs, rows = .lst xs → xs.length ≤ 100000 ∧ ∀ ys, .lst ys ∈ xs → ys.length ≤ 1000
def C_checked_rows : DC := fun ds m Φ Ψ => ∃ (c : Cir) (most wide : Nat) (rows : D), ds = [cD c, rows] ∧ CirOK c most wide ∧ wide ≤ 3 ∧ plD rows = true ∧ smallR rows ∧ (chkR c rows = none → Φ rows m) ∧ ∀ e fs, chkR c rows = some (e, fs) → Ψ e fs m
def W_checked_rows : DS := dSeq (dSet 2 (dCall 1 C_modulus (dCons (dVar 0) (dNil)))) (dSeq (dSet 3 (dOp oShl (dC (.int 1)) (dCall 2 C_width (dCons (dVar 0) (dCons (dCall 1 C_depth (dCons (dVar 0) (dNil))) (dNil)))))) (dSeq (dIf (dOr (dNot (dB (dCB cIsi (dCons (dVar 1) (dCons (dC (.ty "list")) (dNil)))))) (dOr (dB (dOp oEq (dCB cLen (dCons (dVar 1) (dNil))) (dC (.int 0)))) (dB (dOp oNe (dCB cLen (dCons (dVar 1) (dNil))) (dOp oShl (dC (.int 1)) (dCall 1 C_row_bits (dCons (dVar 1) (dNil)))))))) (dRaise "CircuitError" ["part"] (dCons (dC (.str (PySem.Str.ofString "rows"))) (dNil))) (dNext)) (dSeq (dIf (dB (dOp oGt (dCB cLen (dCons (dVar 1) (dNil))) ((dC (.int 1024))))) (dRaise "SizeError" ["limit"] (dCons (dC (.str (PySem.Str.ofString "rows"))) (dNil))) (dNext)) (dSeq (dFor (diList (dVar 1)) (dgName 4) (dIf (dOr (dNot (dB (dCB cIsi (dCons (dVar 4) (dCons (dC (.ty "list")) (dNil)))))) (dOr (dB (dOp oNe (dCB cLen (dCons (dVar 4) (dNil))) (dVar 3))) (dNot (dB (dCB cAll (dCons (dLc (diList (dVar 4)) (dgName 5) (dYes) (dCall 2 C_fits (dCons (dVar 5) (dCons (dOp oSub (dVar 2) (dC (.int 1))) (dNil)))) [5]) (dNil))))))) (dRaise "CircuitError" ["part"] (dCons (dC (.str (PySem.Str.ofString "row"))) (dNil))) (dNext))) (dRet (dVar 1))))))
theorem rd_checked_rows : ∀ ds m Φ Ψ, ds.length = 2 → C_checked_rows ds m Φ Ψ → W_checked_rows { nx := fun _ m' => Φ .non m', rt := Φ } (fun _ => Ψ) (ds.map some ++ List.replicate (6 - ds.length) none) m := by
  intro ds m Φ Ψ _ h
  obtain ⟨c, most, wide, rows, rfl, hc, hw3, hp, hsm, q1, q2⟩ := h
  have hwl := hc.wl
  have hb := hc.w0 _ (gi_mem (show c.ls.length < c.ws.length by omega))
  have ecD : cD c = .tup [.str (PySem.Str.ofString "circuit"), .int c.p, .lst (c.ws.map D.int), .lst (c.ls.map lD)] := rfl
  change W_checked_rows _ _ [some (cD c), some rows, none, none, none, none] m
  unfold W_checked_rows
  refine dSeq_k fun k1 h1 => ?_
  walk_at "dx"
  refine ⟨_, .int c.p, _, _, rfl, ?_⟩
  subst h1
  refine dSeq_k fun k1 h1 => ?_
  walk_at "dx"
  refine ⟨_, _, _, _, rfl, _, _, _, .int (gi c.ws (c.ls.length : Nat)), _, _, rfl, ?_, ⟨hb.1, by omega, by decide⟩, ?_⟩
  · rw [List.length_map]
    exact atI_gi (by omega) (by omega)
  rw [Int.one_mul]
  have ecol : (2 : Int) ^ (gi c.ws (c.ls.length : Nat)).toNat = colsC c c.ls.length := rfl
  rw [ecol]
  subst h1
  refine dSeq_k fun k1 h1 => ?_
  have notl : (∀ xs, rows ≠ .lst xs) → chkR c rows = some (ceD "rows") := fun hh => by
    cases rows with
    | lst xs => exact absurd rfl (hh xs)
    | _ => rfl
  cases rows with
  | non => walk_at "dx"; exact q2 _ _ (notl fun gs z => by cases z)
  | bl b => walk_at "dx"; exact q2 _ _ (notl fun gs z => by cases z)
  | int b => walk_at "dx"; exact q2 _ _ (notl fun gs z => by cases z)
  | str b => walk_at "dx"; exact q2 _ _ (notl fun gs z => by cases z)
  | tup b => walk_at "dx"; exact q2 _ _ (notl fun gs z => by cases z)
  | lst xs =>
    obtain ⟨hl, hg⟩ := hsm xs rfl
    have hpx : ∀ x ∈ xs, plD x = true := plDs_mem hp
    have ck : chkR c (.lst xs) = if @decide (pow2 xs.length) (Classical.propDecidable _) = false then some (ceD "rows") else if 1024 < xs.length then some (seD "rows") else if xs.all (rowOK c.p (colsC c c.ls.length)) = true then none else some (ceD "row") := rfl
    rw [ck] at q1 q2
    have bad : ¬ pow2 xs.length → Ψ "CircuitError" [("part", .str (PySem.Str.ofString "rows"))] m := fun z => q2 _ _ (by rw [if_pos (@decide_eq_false _ (Classical.propDecidable _) z)]; rfl)
    walk_at "dx"
    by_cases l0 : xs.length = 0
    · rw [if_pos (by omega)]
      refine bad ?_
      rintro ⟨b, e⟩
      have := Nat.two_pow_pos b
      omega
    rw [if_neg (by omega)]
    refine ⟨xs, rfl, hl, fun b hb1 hb2 => ?_⟩
    walk_at "dx"
    rw [shl1]
    have b17 : b ≤ 17 := by
      rcases Nat.lt_or_ge 17 b with z | z
      · have := hb2 17 z; omega
      · exact z
    refine ⟨cpow_ok (by omega), ?_⟩
    by_cases hpw : xs.length = 2 ^ b
    · rw [if_neg (fun z => z (congrArg (fun n : Nat => (n : Int)) hpw))]
      have pw : pow2 xs.length := ⟨b, hpw⟩
      rw [if_neg (by rw [@decide_eq_true _ (Classical.propDecidable _) pw]; decide)] at q1 q2
      subst h1
      refine dSeq_k fun k1 h1 => ?_
      walk_at "dx"
      by_cases h1024 : 1024 < xs.length
      · rw [if_pos (by omega)]
        exact q2 _ _ (by rw [if_pos h1024]; rfl)
      rw [if_neg (by omega)]
      rw [if_neg h1024] at q1 q2
      subst h1
      refine dSeq_k fun k1 h1 => ?_
      walk_at "dx"
      have key := forW_map (inj := id) (g := dgName 4) (N := { nx := k1, rt := Φ }) (Ψ := fun _ => Ψ) (body := dIf (dOr (dNot (dB (dCB cIsi (dCons (dVar 4) (dCons (dC (.ty "list")) (dNil)))))) (dOr (dB (dOp oNe (dCB cLen (dCons (dVar 4) (dNil))) (dVar 3))) (dNot (dB (dCB cAll (dCons (dLc (diList (dVar 4)) (dgName 5) (dYes) (dCall 2 C_fits (dCons (dVar 5) (dCons (dOp oSub (dVar 2) (dC (.int 1))) (dNil)))) [5]) (dNil))))))) (dRaise "CircuitError" ["part"] (dCons (dC (.str (PySem.Str.ofString "row"))) (dNil))) (dNext))
        (fun r ρ m' => (∃ v4 v5, ρ = [some (cD c), some (.lst xs), some (.int c.p), some (.int (colsC c c.ls.length)), v4, v5]) ∧ m' = m ∧ (∀ x ∈ r, x ∈ xs) ∧ (r.all (rowOK c.p (colsC c c.ls.length)) = true → xs.all (rowOK c.p (colsC c c.ls.length)) = true)) ?_ ?_ xs
        [some (cD c), some (.lst xs), some (.int c.p), some (.int (colsC c c.ls.length)), none, none] m ⟨⟨_, _, rfl⟩, rfl, fun x hx => hx, fun z => z⟩
      · rwa [List.map_id] at key
      · rintro d r kk hk ρ m' ⟨⟨v4, v5, rfl⟩, rfl, hin, hall⟩
        have hd := hin d List.mem_cons_self
        have pd := hpx d hd
        have badr : rowOK c.p (colsC c c.ls.length) d = false → Ψ "CircuitError" [("part", .str (PySem.Str.ofString "row"))] m' := fun z => q2 _ _ (by
          rw [if_neg (by
            intro z2
            rw [List.all_eq_true] at z2
            rw [z2 d hd] at z
            cases z)]; rfl)
        show dgName 4 d _ _ _
        cases d with
        | non => walk_at "dx"; exact badr rfl
        | bl b => walk_at "dx"; exact badr rfl
        | int b => walk_at "dx"; exact badr rfl
        | str b => walk_at "dx"; exact badr rfl
        | tup b => walk_at "dx"; exact badr rfl
        | lst ys =>
          walk_at "dx"
          have rk : rowOK c.p (colsC c c.ls.length) (.lst ys) = (decide ((ys.length : Int) = colsC c c.ls.length) && ys.all fun y => fitsD y (c.p - 1)) := rfl
          by_cases hyl : (ys.length : Int) = colsC c c.ls.length
          · rw [if_neg (by simpa using hyl)]
            rw [decide_eq_true hyl, Bool.true_and] at rk
            have hy1 := hg ys hd
            refine lcW_fn (inj := id) (out := D.bl) (fun y => fitsD y (c.p - 1)) m' ys ?_ (fun _ => rfl) (by show ys.length ≤ 16777216; omega) ?_ |> fun z => by rwa [List.map_id] at z
            · intro y hy m2 Θ hΘ
              walk_at "dx"
              exact ⟨y, _, rfl, plDs_mem pd y hy, hΘ⟩
            · walk_at "dx"
              refine ⟨_, bls_map _, ?_⟩
              rw [List.all_map]
              have e2 : ys.all (id ∘ fun y => fitsD y (c.p - 1)) = ys.all fun y => fitsD y (c.p - 1) := rfl
              rw [e2]
              cases hy : ys.all (fun y => fitsD y (c.p - 1)) with
              | true =>
                walk_at "dx"
                refine hk _ _ ⟨⟨_, _, rfl⟩, rfl, fun x hx => hin x (List.mem_cons_of_mem _ hx), fun z => hall ?_⟩
                rw [List.all_cons, rk, hy, z]; rfl
              | false =>
                walk_at "dx"
                exact badr (rk.trans hy)
          · rw [if_pos (by simpa using hyl)]
            rw [decide_eq_false hyl] at rk
            exact badr rk
        | _ => exact nomatch pd
      · rintro ρ m' ⟨⟨v4, v5, rfl⟩, rfl, _, hall⟩
        have z := hall rfl
        subst h1
        walk_at "dx"
        exact q1 (by rw [if_pos z])
    · rw [if_pos (fun z => hpw (Int.ofNat_inj.mp z))]
      refine bad ?_
      rintro ⟨b2, e⟩
      rw [e] at hb1 hb2 hpw
      rcases Nat.lt_trichotomy b b2 with z | z | z
      · have := Nat.pow_lt_pow_right (a := 2) (by decide) z; omega
      · rw [z] at hpw; exact hpw rfl
      · have := hb2 b2 z; omega
  | _ => exact nomatch hp

/-! the values of a circuit -/
def gv (p : Int) (below : List Int) : Gate → Int
  | .lin a x b y => (a * gi below x + b * gi below y) % p
  | .mul c x y => c * gi below x * gi below y % p
def C_gate_value : DC := fun ds m Φ _ => ∃ (g : Gate) (below : List Int) (p : Int), ds = [gD g, .lst (below.map D.int), .int p] ∧ (1 < p ∧ p ≤ 2147483647) ∧ gOK p (below.length : Nat) g ∧ (∀ v ∈ below, 0 ≤ v ∧ v < p) ∧ Φ (.int (gv p below g)) m
def W_gate_value : DS := dSeq (dIf (dB (dOp oEq (dOp oIx (dVar 0) (dC (.int 0))) (dC (.str (PySem.Str.ofString "lin"))))) (dRet (dOp oMod (dOp oAdd (dOp oMul (dOp oIx (dVar 0) (dC (.int 1))) (dOp oIx (dVar 1) (dOp oIx (dVar 0) (dC (.int 2))))) (dOp oMul (dOp oIx (dVar 0) (dC (.int 3))) (dOp oIx (dVar 1) (dOp oIx (dVar 0) (dC (.int 4)))))) (dVar 2))) (dNext)) (dRet (dOp oMod (dOp oMul (dOp oMul (dOp oIx (dVar 0) (dC (.int 1))) (dOp oIx (dVar 1) (dOp oIx (dVar 0) (dC (.int 2))))) (dOp oIx (dVar 1) (dOp oIx (dVar 0) (dC (.int 3))))) (dVar 2)))
theorem gi_in {p : Int} {xs : List Int} (h : ∀ v ∈ xs, 0 ≤ v ∧ v < p) {z : Int} (h0 : 0 ≤ z) (h1 : z < (xs.length : Nat)) : 0 ≤ gi xs z ∧ gi xs z < p := by
  obtain ⟨n, rfl⟩ := Int.eq_ofNat_of_zero_le h0
  exact h _ (gi_mem (by omega))
theorem rd_gate_value : ∀ ds m Φ Ψ, ds.length = 3 → C_gate_value ds m Φ Ψ → W_gate_value { nx := fun _ m' => Φ .non m', rt := Φ } (fun _ => Ψ) (ds.map some ++ List.replicate (3 - ds.length) none) m := by
  intro ds m Φ Ψ _ h
  obtain ⟨g, below, p, rfl, ⟨p1, p2⟩, hg, hb, q⟩ := h
  change W_gate_value _ _ [some (gD g), some (.lst (below.map D.int)), some (.int p)] m
  unfold W_gate_value
  refine dSeq_k fun k1 h1 => ?_
  cases g with
  | lin a x b y =>
    obtain ⟨ha, ⟨x0, x1⟩, hb2, ⟨y0, y1⟩⟩ := hg
    rw [show gD (.lin a x b y) = .tup [.str (PySem.Str.ofString "lin"), .int a, .int x, .int b, .int y] from rfl]
    walk_at "dx"
    refine ⟨_, rfl, okE_str sk_lin, okE_str sk_lin, ?_⟩
    rw [eqD_str, if_pos (decide_eq_true rfl)]
    refine ⟨_, rfl, _, rfl, ?_⟩
    walk_at "dx"
    refine ⟨_, atI_gi x0 x1, ?_⟩
    walk_at "dx"
    have vx := gi_in hb x0 x1
    have vy := gi_in hb y0 y1
    refine ⟨mulL ha.1 (by omega), _, rfl, _, rfl, ?_⟩
    walk_at "dx"
    refine ⟨_, atI_gi y0 y1, ?_⟩
    walk_at "dx"
    exact ⟨mulL hb2.1 (by omega), by omega, q⟩
  | mul a x y =>
    obtain ⟨ha, ⟨x0, x1⟩, ⟨y0, y1⟩⟩ := hg
    rw [show gD (.mul a x y) = .tup [.str (PySem.Str.ofString "mul"), .int a, .int x, .int y] from rfl]
    walk_at "dx"
    refine ⟨_, rfl, okE_str sk_mul, okE_str sk_lin, ?_⟩
    rw [eqD_str, if_neg (by simp [ofString_inj])]
    subst h1
    walk_at "dx"
    refine ⟨_, rfl, _, rfl, ?_⟩
    walk_at "dx"
    refine ⟨_, atI_gi x0 x1, ?_⟩
    walk_at "dx"
    have vx := gi_in hb x0 x1
    have vy := gi_in hb y0 y1
    refine ⟨mulL ha.1 (by omega), _, rfl, ?_⟩
    walk_at "dx"
    refine ⟨_, atI_gi y0 y1, ?_⟩
    walk_at "dx"
    exact ⟨mulR vy.1 (by omega), by omega, q⟩
/-- all columns of all layers, the last layer being the inputs -/
def rr (p : Int) : List (List Gate) → List Int → List (List Int)
  | [], inp => [inp]
  | l :: ls, inp => (l.map (gv p ((rr p ls inp).headD []))) :: rr p ls inp
theorem rr_len (p : Int) (inp : List Int) : ∀ ls, (rr p ls inp).length = ls.length + 1
  | [] => rfl
  | l :: ls => by
    show (rr p ls inp).length + 1 = _
    rw [rr_len p inp ls]; rfl
theorem rr_drop (p : Int) (inp : List Int) : ∀ (ls : List (List Gate)) (i : Nat), i ≤ ls.length → (rr p ls inp).drop i = rr p (ls.drop i) inp
  | ls, 0, _ => rfl
  | l :: ls, i + 1, h => by
    show (rr p ls inp).drop i = rr p (ls.drop i) inp
    exact rr_drop p inp ls i (by simpa using h)
def intL (xs : List Int) : D := .lst (xs.map D.int)
/-- row r has as many numbers as layer i has columns -/
structure rowsOK (p : Int) (n : Int) (r : List Int) : Prop where
  len : (r.length : Int) = n
  inp : ∀ v ∈ r, 0 ≤ v ∧ v < p
theorem gv_in {p : Int} (hp : 1 < p) {b : List Int} {g : Gate} : 0 ≤ gv p b g ∧ gv p b g < p := by
  cases g <;> exact ⟨Int.emod_nonneg _ (by omega), Int.emod_lt_of_pos _ (by omega)⟩
theorem rr_ok {c : Cir} {most wide : Nat} (hc : CirOK c most wide) {inp : List Int} (hi : rowsOK c.p (colsC c c.ls.length) inp) : ∀ (k i : Nat), i + k = c.ls.length → rowsOK c.p (colsC c i) ((rr c.p (c.ls.drop i) inp).headD [])
  | 0, i, h => by
    have e : i = c.ls.length := by omega
    subst e
    rw [List.drop_length]
    exact hi
  | k + 1, i, h => by
    have hlt : i < c.ls.length := by omega
    rw [List.drop_eq_getElem_cons hlt]
    show rowsOK c.p (colsC c i) (c.ls[i].map (gv c.p ((rr c.p (c.ls.drop (i + 1)) inp).headD [])))
    have z := hc.ll i hlt
    rw [List.getD_eq_getElem?_getD, List.getElem?_eq_getElem hlt] at z
    refine ⟨?_, fun v hv => ?_⟩
    · rw [List.length_map]; exact z
    · obtain ⟨g, hg, rfl⟩ := List.mem_map.mp hv
      have := hc.pm.1
      exact gv_in (by omega)
def C_run_row : DC := fun ds m Φ _ => ∃ (c : Cir) (most wide : Nat) (inp : List Int), ds = [cD c, intL inp] ∧ CirOK c most wide ∧ most ≤ 1000 ∧ wide ≤ 3 ∧ rowsOK c.p (colsC c c.ls.length) inp ∧ Φ (.lst ((rr c.p c.ls inp).map intL)) m
def W_run_row : DS := dSeq (dSet 2 (dCall 1 C_modulus (dCons (dVar 0) (dNil)))) (dSeq (dSet 3 (dLstM (dCons (dCB cList (dCons (dVar 1) (dNil))) (dNil)))) (dSeq (dFor (diList (dRevL (dOp oIx (dVar 0) (dC (.int 3))))) (dgName 4) (dDrop (dMethL oApp (dVar 3) (dCons (dLc (diList (dVar 4)) (dgName 5) (dYes) (dCall 3 C_gate_value (dCons (dVar 5) (dCons (dOp oIx (dVar 3) (dUn oNeg (dC (.int 1)))) (dCons (dVar 2) (dNil))))) [5]) (dNil))))) (dRet (dRevL (dVar 3)))))
theorem atI_last {xs : List D} {x : D} : atI (xs ++ [x]) (-1) = some x := by
  unfold atI ixN
  rw [if_neg (by decide), List.length_append, List.length_singleton]
  rw [if_pos (by omega)]
  show (xs ++ [x])[((-1 : Int) + ((xs.length + 1 : Nat) : Int)).toNat]? = _
  rw [show ((-1 : Int) + ((xs.length + 1 : Nat) : Int)).toNat = xs.length by omega, List.getElem?_append_right (Nat.le_refl _)]
  simp
theorem rd_run_row : ∀ ds m Φ Ψ, ds.length = 2 → C_run_row ds m Φ Ψ → W_run_row { nx := fun _ m' => retQ m Φ .non m', rt := retQ m Φ } (fun _ => retX m Ψ) (ds.map some ++ List.replicate (6 - ds.length) none) m := by
  intro ds m Φ Ψ _ h
  obtain ⟨c, most, wide, inp, rfl, hc, hm, hw3, hi, q⟩ := h
  have hwl := hc.wl
  have hl1 := hc.l1
  have hp := hc.pm
  have ecD : cD c = .tup [.str (PySem.Str.ofString "circuit"), .int c.p, .lst (c.ws.map D.int), .lst (c.ls.map lD)] := rfl
  change W_run_row _ _ [some (cD c), some (intL inp), none, none, none, none] m
  unfold W_run_row
  refine dSeq_k fun k1 h1 => ?_
  walk_at "dx"
  refine ⟨_, .int c.p, _, _, rfl, ?_⟩
  subst h1
  refine dSeq_k fun k1 h1 => ?_
  rw [show intL inp = .lst (inp.map D.int) from rfl]
  walk_at "dx"
  refine ⟨by decide, ?_⟩
  subst h1
  refine dSeq_k fun k1 h1 => ?_
  rw [ecD]
  walk_at "dx"
  refine ⟨.lst (c.ls.map lD), rfl, ?_⟩
  walk_at "dx"
  rw [← List.map_reverse, ← ecD]
  refine forW_map (inj := lD) (fun r ρ m' => ∃ (i : Nat) (v4 v5 : Option D), r = (c.ls.take i).reverse ∧ i ≤ c.ls.length ∧ ρ = [some (cD c), some (.lst (inp.map D.int)), some (.int c.p), some (.hnd m.M.length), v4, v5] ∧ m' = ⟨m.M ++ [MO.lst (((rr c.p (c.ls.drop i) inp).map intL).reverse)], m.s⟩) ?_ ?_ c.ls.reverse _ _ ⟨c.ls.length, _, _, by rw [List.take_length], Nat.le_refl _, rfl, by rw [List.drop_length]; rfl⟩
  · rintro l r kk hk ρ m' ⟨i, v4, v5, er, hi2, rfl, rfl⟩
    obtain ⟨i, rfl⟩ : ∃ j, i = j + 1 := by
      cases i with
      | zero => simp at er
      | succ j => exact ⟨j, rfl⟩
    have hlt : i < c.ls.length := by omega
    rw [List.take_succ, List.getElem?_eq_getElem hlt] at er
    simp only [Option.toList_some, List.reverse_append, List.reverse_singleton, List.singleton_append, List.reverse_cons, List.reverse_nil, List.nil_append] at er
    obtain ⟨rfl, rfl⟩ := List.cons.inj er
    have ok := rr_ok hc hi (c.ls.length - (i + 1)) (i + 1) (by omega)
    generalize hR : rr c.p (c.ls.drop (i + 1)) inp = R at *
    obtain ⟨b, R', rfl⟩ : ∃ b R', R = b :: R' := by
      cases R with
      | nil => have := rr_len c.p inp (c.ls.drop (i + 1)); rw [hR] at this; simp at this
      | cons b R' => exact ⟨b, R', rfl⟩
    have ok : rowsOK c.p (colsC c (i + 1)) b := ok
    have eR : ((b :: R').map intL).reverse = (R'.map intL).reverse ++ [intL b] := by rw [List.map_cons, List.reverse_cons]
    rw [eR]
    have gg := hc.gg i hlt
    have ll := hc.ll i hlt
    rw [List.getD_eq_getElem?_getD, List.getElem?_eq_getElem hlt] at gg ll
    have gg : ∀ g ∈ c.ls[i], gOK c.p (colsC c (i + 1)) g := gg
    have ll : ((c.ls[i].length : Nat) : Int) = _ := ll
    have l8 := pow_le8 (hc.w0 _ (gi_mem (show i < c.ws.length by omega))) hw3
    rw [show lD c.ls[i] = .lst (c.ls[i].map gD) from rfl]
    have rl : (R'.length : Nat) ≤ c.ls.length := by
      have := rr_len c.p inp (c.ls.drop (i + 1))
      rw [hR, List.length_cons, List.length_drop] at this
      omega
    walk_at "dx"
    refine lcW_fnM (inj := gD) (out := D.int) (gv c.p b) _ c.ls[i] ?_ (fun _ => rfl) (by show _ ≤ 16777216; omega) ?_
    · intro g hg acc Θ hΘ
      have e9 : ∀ x y : MO, (m.M ++ [x] ++ [y])[m.M.length]? = some x := fun x y => by
        rw [List.append_assoc]
        exact app_at rfl
      have hp2 := hp.1
      have hp3 := hp.2
      walk_at "dx"
      simp only [e9, moL_lst]
      refine ⟨intL b, atI_last, g, b, c.p, rfl, ⟨by omega, hp3⟩, ?_, ok.inp, hΘ⟩
      rw [ok.len]
      exact gg g hg
    · walk_at "dx"
      refine ⟨by rw [List.length_append, List.length_reverse, List.length_map, List.length_singleton]; show _ < 16777216; omega, hk _ _ ⟨i, _, _, rfl, by omega, rfl, ?_⟩⟩
      rw [List.drop_eq_getElem_cons hlt]
      show _ = (⟨m.M ++ [MO.lst (((rr c.p (c.ls[i] :: c.ls.drop (i + 1)) inp).map intL).reverse)], m.s⟩ : MM)
      have e : rr c.p (c.ls[i] :: c.ls.drop (i + 1)) inp = (c.ls[i].map (gv c.p b)) :: b :: R' := by
        show (c.ls[i].map (gv c.p ((rr c.p (c.ls.drop (i + 1)) inp).headD []))) :: rr c.p (c.ls.drop (i + 1)) inp = _
        rw [hR]; rfl
      rw [e, List.map_cons, List.reverse_cons, eR]
      rfl
  · rintro ρ m' ⟨i, v4, v5, er, hi2, rfl, rfl⟩
    have e0 : i = 0 := by
      cases i with
      | zero => rfl
      | succ j =>
        have := congrArg List.length er
        rw [List.length_reverse, List.length_take] at this
        simp at this
        omega
    subst e0
    subst h1
    walk_at "dx"
    rw [List.reverse_reverse]
    refine retQ_dead ?_ ?_
    · refine clAll_pl _ (plDs_of fun d hd => ?_)
      obtain ⟨x, _, rfl⟩ := List.mem_map.mp hd
      exact plD_ints x
    · exact q

theorem chkR_none {c : Cir} {rows : D} (h : chkR c rows = none) : ∃ R : List (List Int), rows = .lst (R.map intL) ∧ pow2 R.length ∧ R.length ≤ 1024 ∧ ∀ r ∈ R, rowsOK c.p (colsC c c.ls.length) r := by
  unfold chkR at h
  split at h
  · rename_i xs
    split at h
    · cases h
    · rename_i hp
      split at h
      · cases h
      · rename_i hl
        split at h
        · rename_i ha
          have pw : pow2 xs.length := by
            by_cases z : pow2 xs.length
            · exact z
            · exact absurd (@decide_eq_false _ (Classical.propDecidable _) z) hp
          have one : ∀ x ∈ xs, ∃ r : List Int, x = intL r ∧ rowsOK c.p (colsC c c.ls.length) r := fun x hx => by
            have z := List.all_eq_true.mp ha x hx
            unfold rowOK at z
            split at z
            · rename_i ys
              rw [Bool.and_eq_true] at z
              have key : ∀ ys : List D, (ys.all fun y => fitsD y (c.p - 1)) = true → ∃ r : List Int, ys = r.map D.int ∧ ∀ v ∈ r, 0 ≤ v ∧ v < c.p := by
                intro ys
                induction ys with
                | nil => intro _; exact ⟨[], rfl, fun v hv => by cases hv⟩
                | cons y ys ih =>
                  intro hz
                  rw [List.all_cons, Bool.and_eq_true] at hz
                  obtain ⟨r, er, hr⟩ := ih hz.2
                  cases y with
                  | int i =>
                    have := of_decide_eq_true hz.1
                    refine ⟨i :: r, by rw [er]; rfl, fun v hv => ?_⟩
                    rcases List.mem_cons.mp hv with e | e
                    · rw [e]; omega
                    · exact hr v e
                  | _ => exact absurd hz.1 Bool.false_ne_true
              obtain ⟨r, er, hr⟩ := key ys z.2
              subst er
              refine ⟨r, rfl, ⟨?_, hr⟩⟩
              have := of_decide_eq_true z.1
              rwa [List.length_map] at this
            · cases z
          have all : ∀ xs : List D, (∀ x ∈ xs, ∃ r : List Int, x = intL r ∧ rowsOK c.p (colsC c c.ls.length) r) → ∃ R : List (List Int), xs = R.map intL ∧ ∀ r ∈ R, rowsOK c.p (colsC c c.ls.length) r := by
            intro xs
            induction xs with
            | nil => intro _; exact ⟨[], rfl, fun r hr => by cases hr⟩
            | cons x xs ih =>
              intro hx
              obtain ⟨r, er, hr⟩ := hx x List.mem_cons_self
              obtain ⟨R, eR, hR⟩ := ih fun y hy => hx y (List.mem_cons_of_mem _ hy)
              refine ⟨r :: R, by rw [er, eR]; rfl, fun v hv => ?_⟩
              rcases List.mem_cons.mp hv with e | e
              · rw [e]; exact hr
              · exact hR v e
          obtain ⟨R, eR, hR⟩ := all xs one
          subst eR
          rw [List.length_map] at pw hl
          exact ⟨R, rfl, pw, by omega, hR⟩
        · cases h
  · cases h
theorem chkR_cl {c : Cir} {rows : D} {e : String} {fs : List (String × D)} {n : Nat} (h : chkR c rows = some (e, fs)) : clF n fs = true := by
  unfold chkR at h
  split at h
  · split at h
    · cases h; rfl
    · split at h
      · cases h; rfl
      · split at h
        · cases h
        · cases h; rfl
  · cases h; rfl
theorem chkD_cl {d : D} {e : String} {fs : List (String × D)} {n : Nat} (h : chkD d = some (e, fs)) : clF n fs = true := by
  unfold chkD at h
  split at h
  · cases h; rfl
  · split at h
    · cases h; rfl
    · split at h
      · cases h; rfl
      · split at h
        · cases h; rfl
        · split at h
          · cases h; rfl
          · cases q : (List.range (lsC d).length).findSome? (layCk (ptC d) (wsC d) (lsC d)) with
            | none => rw [q] at h; cases h
            | some a => rw [q] at h; cases h; rfl
def tabI (found : List (List (List Int))) (i cols : Nat) : List Int := (List.range cols).flatMap fun g => found.map fun f => gi (f.getD i []) (g : Nat)
def colsN (c : Cir) (i : Nat) : Nat := 2 ^ (gi c.ws (i : Nat)).toNat
theorem colsN_eq {c : Cir} {i : Nat} : (colsN c i : Int) = colsC c i := by unfold colsN colsC; simp
def tables (c : Cir) (R : List (List Int)) : List (List Int) := (List.range (c.ls.length + 1)).map fun i => tabI (R.map (rr c.p c.ls)) i (colsN c i)
def tabL (t : List (List Int)) : D := .lst (t.map intL)
def C_run : DC := fun ds m Φ Ψ => ∃ d rows : D, ds = [d, rows] ∧ plD d = true ∧ okE 50 d = true ∧ smallC d ∧ plD rows = true ∧ smallR rows ∧ ((∃ e fs, chkD d = some (e, fs) ∧ Ψ e fs m) ∨
  ∃ (c : Cir) (most wide : Nat), d = cD c ∧ CirOK c most wide ∧ most ≤ 4 ∧ wide ≤ 3 ∧ (∀ e fs, chkR c rows = some (e, fs) → Ψ e fs m) ∧ ∀ R : List (List Int), rows = .lst (R.map intL) → pow2 R.length → R.length ≤ 1024 → (∀ r ∈ R, rowsOK c.p (colsC c c.ls.length) r) → Φ (tabL (tables c R)) m)
def W_run : DS := dSeq (dDrop (dCall 1 C_checked (dCons (dVar 0) (dNil)))) (dSeq (dSet 2 (dLc (diList (dCall 2 C_checked_rows (dCons (dVar 0) (dCons (dVar 1) (dNil))))) (dgName 7) (dYes) (dCall 2 C_run_row (dCons (dVar 0) (dCons (dVar 7) (dNil)))) [7])) (dSeq (dSet 3 (dLstM (dNil))) (dSeq (dFor (diRng1 (dCons (dOp oAdd (dCall 1 C_depth (dCons (dVar 0) (dNil))) (dC (.int 1))) (dNil))) (dgName 4) (dSeq (dSet 5 (dLstM (dNil))) (dSeq (dFor (diRng1 (dCons (dOp oShl (dC (.int 1)) (dCall 2 C_width (dCons (dVar 0) (dCons (dVar 4) (dNil))))) (dNil))) (dgName 6) (dDrop (dMethL oExt (dVar 5) (dCons (dLc (diList (dVar 2)) (dgName 8) (dYes) (dOp oIx (dOp oIx (dVar 8) (dVar 4)) (dVar 6)) [8]) (dNil))))) (dFrz 5 (dDrop (dMethL oApp (dVar 3) (dCons (dVar 5) (dNil)))))))) (dRet (dVar 3)))))
theorem rr_get {c : Cir} {most wide : Nat} (hc : CirOK c most wide) {inp : List Int} (hi : rowsOK c.p (colsC c c.ls.length) inp) {i : Nat} (h : i ≤ c.ls.length) : (rr c.p c.ls inp)[i]? = some ((rr c.p c.ls inp).getD i []) ∧ rowsOK c.p (colsC c i) ((rr c.p c.ls inp).getD i []) := by
  have hl : i < (rr c.p c.ls inp).length := by rw [rr_len]; omega
  have e : (rr c.p c.ls inp).getD i [] = (rr c.p (c.ls.drop i) inp).headD [] := by
    rw [← rr_drop c.p inp c.ls i h, List.getD_eq_getElem?_getD, List.getElem?_eq_getElem hl, List.drop_eq_getElem_cons hl]
    rfl
  refine ⟨?_, ?_⟩
  · rw [List.getD_eq_getElem?_getD, List.getElem?_eq_getElem hl]; rfl
  · rw [e]
    exact rr_ok hc hi (c.ls.length - i) i (by omega)
theorem rd_run : ∀ ds m Φ Ψ, ds.length = 2 → C_run ds m Φ Ψ → W_run { nx := fun _ m' => retQ m Φ .non m', rt := retQ m Φ } (fun _ => retX m Ψ) (ds.map some ++ List.replicate (9 - ds.length) none) m := by
  intro ds m Φ Ψ _ h
  obtain ⟨d, rows, rfl, pd, od, sd, pr, sr, q⟩ := h
  change W_run _ _ [some d, some rows, none, none, none, none, none, none, none] m
  unfold W_run
  refine dSeq_k fun k1 h1 => ?_
  walk_at "dx"
  refine ⟨d, rfl, pd, od, sd, fun hn => ?_, fun e fs he => ?_⟩
  rotate_left
  · rcases q with ⟨e2, fs2, h2, z⟩ | ⟨c, most, wide, rfl, hc, hm, hw, z⟩
    · rw [he] at h2
      cases h2
      exact retX_id (chkD_cl he) z
    · rw [chkD_c hc hm hw] at he; cases he
  rcases q with ⟨e2, fs2, h2, z⟩ | ⟨c, most, wide, rfl, hc, hm, hw, qx, q⟩
  · rw [hn] at h2; cases h2
  have hwl := hc.wl
  have hl1 := hc.l1
  have hp := hc.pm
  have hp1 := hp.1
  have hp2 := hp.2
  have ecD : cD c = .tup [.str (PySem.Str.ofString "circuit"), .int c.p, .lst (c.ws.map D.int), .lst (c.ls.map lD)] := rfl
  subst h1
  refine dSeq_k fun k1 h1 => ?_
  walk_at "dx"
  refine ⟨c, most, wide, rows, rfl, hc, hw, pr, sr, fun hn2 => ?_, fun e fs he => retX_id (chkR_cl he) (qx e fs he)⟩
  obtain ⟨R, rfl, hpw, hR, hok⟩ := chkR_none hn2
  have q := q R rfl hpw hR hok
  walk_at "dx"
  refine lcW_fn (inj := intL) (out := tabL) (rr c.p c.ls) m R ?_ (fun y => clD_pl _ (plDs_of fun d hd => by obtain ⟨x, _, rfl⟩ := List.mem_map.mp hd; exact plD_ints x)) (by show R.length ≤ 16777216; omega) ?_
  · intro r hr m2 Θ hΘ
    walk_at "dx"
    exact ⟨c, most, wide, r, rfl, hc, by omega, hw, hok r hr, hΘ⟩
  subst h1
  refine dSeq_k fun k1 h1 => ?_
  walk_at "dx"
  refine ⟨by decide, ?_⟩
  subst h1
  refine dSeq_k fun k1 h1 => ?_
  rw [ecD]
  walk_at "dx"
  refine ⟨_, _, _, c.ls.map lD, rfl, ?_⟩
  walk_at "dx"
  refine ⟨⟨by omega, by omega⟩, ?_⟩
  rw [← ecD, rngD0, show ((c.ls.length : Nat) : Int) + 1 = ((c.ls.length + 1 : Nat) : Int) by omega, Int.toNat_natCast]
  generalize hF : R.map (rr c.p c.ls) = F at *
  have hFok : ∀ f ∈ F, ∀ i ≤ c.ls.length, f[i]? = some (f.getD i []) ∧ rowsOK c.p (colsC c i) (f.getD i []) := fun f hf i hi => by
    rw [← hF] at hf
    obtain ⟨r, hr, rfl⟩ := List.mem_map.mp hf
    exact rr_get hc (hok r hr) hi
  have hFl : F.length ≤ 1024 := by rw [← hF, List.length_map]; exact hR
  refine forW_nat (fun i ρ m' => ∃ (L : List MO) (v4 v5 v6 v7 v8 : Option D), ρ = [some (cD c), some (.lst (R.map intL)), some (.lst (F.map tabL)), some (.hnd m.M.length), v4, v5, v6, v7, v8] ∧ m' = ⟨m.M ++ MO.lst (((List.range i).map fun i => intL (tabI F i (colsN c i)))) :: L, m.s⟩) ?_ ?_ ⟨[], _, _, _, _, _, rfl, rfl⟩
  · rintro i kk hi hk ρ m' ⟨L, v4, v5, v6, v7, v8, rfl, rfl⟩
    have hb := hc.w0 _ (gi_mem (show i < c.ws.length by omega))
    have l8 := pow_le8 hb hw
    have c8 : colsN c i ≤ 8 := by have := colsN_eq (c := c) (i := i); unfold colsC at this; omega
    refine dSeq_k fun k2 h2 => ?_
    walk_at "dx"
    refine ⟨by decide, ?_⟩
    generalize hA : m.M ++ MO.lst (((List.range i).map fun i => intL (tabI F i (colsN c i)))) :: L = A
    subst h2
    refine dSeq_k fun k2 h2 => ?_
    rw [ecD]
    walk_at "dx"
    refine ⟨_, _, _, .int (gi c.ws (i : Nat)), c.ws.map D.int, _, rfl, atI_gi (by omega) (by omega), ?_⟩
    walk_at "dx"
    refine ⟨⟨hb.1, by omega, by decide⟩, ?_⟩
    rw [← ecD, Int.one_mul, show (2 : Int) ^ (gi c.ws (i : Nat)).toNat = ((colsN c i : Nat) : Int) from colsN_eq.symm]
    refine ⟨⟨by omega, by omega⟩, ?_⟩
    rw [rngD0, Int.toNat_natCast]
    refine forW_nat (fun g ρ m' => ∃ (v6 v7 v8 : Option D), ρ = [some (cD c), some (.lst (R.map intL)), some (.lst (F.map tabL)), some (.hnd m.M.length), some (.int (i : Nat)), some (.hnd A.length), v6, v7, v8] ∧ m' = ⟨A ++ [MO.lst ((tabI F i g).map D.int)], m.s⟩) ?_ ?_ ⟨_, _, _, rfl, rfl⟩
    · rintro g kg hg hkg ρ m' ⟨v6, v7, v8, rfl, rfl⟩
      walk_at "dx"
      refine lcW_fn (inj := tabL) (out := D.int) (fun f => gi (f.getD i []) (g : Nat)) _ F ?_ (fun _ => rfl) (by show F.length ≤ 16777216; omega) ?_
      · intro f hf m2 Θ hΘ
        obtain ⟨e1, e2⟩ := hFok f hf i (by omega)
        unfold tabL
        walk_at "dx"
        refine ⟨intL (f.getD i []), atI_nat (by rw [List.getElem?_map, e1]; rfl), ?_⟩
        rw [show intL (f.getD i []) = .lst ((f.getD i []).map D.int) from rfl]
        walk_at "dx"
        refine ⟨_, atI_gi (by omega) ?_, hΘ⟩
        rw [e2.len, ← colsN_eq]
        omega
      · walk_at "dx"
        have eT : tabI F i (g + 1) = tabI F i g ++ F.map (fun f => gi (f.getD i []) (g : Nat)) := by
          unfold tabI
          rw [List.range_succ, List.flatMap_append]
          simp
        have lT : (tabI F i g).length = g * F.length := by
          unfold tabI
          have : ∀ k, ((List.range k).flatMap fun g => F.map fun f => gi (f.getD i []) (g : Nat)).length = k * F.length := fun k => by
            induction k with
            | zero => simp
            | succ k ih => rw [List.range_succ, List.flatMap_append, List.length_append, ih, Nat.add_mul]; simp
          exact this g
        refine ⟨?_, hkg _ _ ⟨_, _, _, rfl, ?_⟩⟩
        · rw [lT]
          have := Nat.mul_le_mul (show g ≤ 8 by omega) hFl
          show _ + F.length ≤ 16777216
          omega
        · rw [eT, List.map_append]
    · rintro ρ m' ⟨v6, v7, v8, rfl, rfl⟩
      subst h2
      unfold dFrz
      walk_at "dx"
      have e9 : ∀ y : MO, (A ++ [y])[m.M.length]? = some (MO.lst ((List.range i).map fun i => intL (tabI F i (colsN c i)))) := fun y => by
        rw [← hA, List.append_assoc]
        exact app_at rfl
      have e10 : ∀ y z : MO, (A ++ [y]).set m.M.length z = m.M ++ z :: (L ++ [y]) := fun y z => by
        rw [← hA, List.append_assoc]
        exact set_app2
      simp only [e9, e10, moL_lst]
      refine ⟨rfl, by rw [List.length_map, List.length_range]; show i < 16777216; omega, hk _ _ ⟨L ++ [MO.dead], _, _, _, _, _, rfl, ?_⟩⟩
      rw [List.range_succ, List.map_append]
      rfl
  · rintro ρ m' ⟨L, v4, v5, v6, v7, v8, rfl, rfl⟩
    subst h1
    walk_at "dx"
    refine ⟨m.M, _, .lst ((tables c R).map intL), rfl, kept.rfl, .inr ⟨0, _, rfl, rfl, ?_⟩, clAll_pl _ (plDs_of fun d hd => by obtain ⟨x, _, rfl⟩ := List.mem_map.mp hd; exact plD_ints x), q⟩
    unfold tables
    rw [hF, List.map_map]
    rfl
def C__law_inputs : DC := fun ds m Φ _ => ∃ (c : Cir) (most wide b : Nat), ds = [.st 1, cD c, .int (b : Nat)] ∧ m.s = 1 ∧ CirOK c most wide ∧ wide ≤ 3 ∧ b ≤ 3 ∧ ∀ R : List (List Int), R.length = 2 ^ b → (∀ r ∈ R, rowsOK c.p (colsC c c.ls.length) r) → Φ (.lst (R.map intL)) m
def W__law_inputs : DS := dSeq (dSet 3 (dOp oShl (dC (.int 1)) (dOp oIx (dOp oIx (dVar 1) (dC (.int 2))) (dUn oNeg (dC (.int 1)))))) (dRet (dLc (diRng1 (dCons (dOp oShl (dC (.int 1)) (dVar 2)) (dNil))) (dgName 4) (dYes) (dLc (diRng1 (dCons (dVar 3) (dNil))) (dgName 5) (dYes) (dCall 2 C_take (dCons (dVar 0) (dCons (dOp oIx (dVar 1) (dC (.int 1))) (dNil)))) [5]) [4]))
theorem rd__law_inputs : ∀ ds m Φ Ψ, ds.length = 3 → C__law_inputs ds m Φ Ψ → W__law_inputs { nx := fun _ m' => Φ .non m', rt := Φ } (fun _ => Ψ) (ds.map some ++ List.replicate (6 - ds.length) none) m := by
  intro ds m Φ Ψ _ h
  obtain ⟨c, most, wide, b, rfl, hs, hc, hw, hb3, q⟩ := h
  have hwl := hc.wl
  have hp := hc.pm
  have hp1 := hp.1
  have hp2 := hp.2
  have hb := hc.w0 _ (gi_mem (show c.ls.length < c.ws.length by omega))
  have l8 := pow_le8 hb hw
  have ecD : cD c = .tup [.str (PySem.Str.ofString "circuit"), .int c.p, .lst (c.ws.map D.int), .lst (c.ls.map lD)] := rfl
  have ew : ∃ W, c.ws = W ++ [gi c.ws (c.ls.length : Nat)] := by
    refine ⟨c.ws.dropLast, ?_⟩
    have ne : c.ws ≠ [] := fun z => by rw [z] at hwl; simp at hwl
    have z := List.dropLast_concat_getLast ne
    rw [List.getLast_eq_getElem] at z
    have e : gi c.ws (c.ls.length : Nat) = c.ws[c.ws.length - 1]'(by omega) := by
      rw [gi_nat, List.getD_eq_getElem?_getD, show c.ls.length = c.ws.length - 1 by omega, List.getElem?_eq_getElem (by omega)]; rfl
    rw [e]
    exact z.symm
  obtain ⟨W, eW⟩ := ew
  change W__law_inputs _ _ [some (.st 1), some (cD c), some (.int (b : Nat)), none, none, none] m
  unfold W__law_inputs
  refine dSeq_k fun k1 h1 => ?_
  rw [ecD]
  walk_at "dx"
  refine ⟨.lst (c.ws.map D.int), rfl, ?_⟩
  walk_at "dx"
  refine ⟨.int (gi c.ws (c.ls.length : Nat)), ?_, ?_⟩
  · have z : c.ws.map D.int = W.map D.int ++ [.int (gi c.ws (c.ls.length : Nat))] := by
      conv => lhs; rw [eW]
      rw [List.map_append]; rfl
    rw [z]
    exact atI_last
  walk_at "dx"
  refine ⟨⟨hb.1, by omega, by decide⟩, ?_⟩
  rw [Int.one_mul, show (2 : Int) ^ (gi c.ws (c.ls.length : Nat)).toNat = ((colsN c c.ls.length : Nat) : Int) from colsN_eq.symm]
  have c8 : colsN c c.ls.length ≤ 8 := by have := colsN_eq (c := c) (i := c.ls.length); unfold colsC at this; omega
  subst h1
  walk_at "dx"
  rw [shl1]
  have b8 : 2 ^ b ≤ 8 := Nat.pow_le_pow_right (n := 2) (by decide) hb3
  have b0 : (0 : Int) ≤ ((2 ^ b : Nat) : Int) := Int.natCast_nonneg _
  refine ⟨cpow_ok (by omega), ⟨by omega, by omega⟩, ?_⟩
  rw [rngD0, Int.toNat_natCast]
  refine lcW_any (inj := fun i : Nat => D.int (i : Nat)) (out := intL) (fun _ r => rowsOK c.p (colsC c c.ls.length) r) m ?_ (fun y => clD_pl _ (plD_ints y)) (List.range (2 ^ b)) [] (by rw [List.length_range]; show 0 + _ ≤ 16777216; omega) fun R hR => ?_
  · intro x m' Θ hs' hΘ
    walk_at "dx"
    refine ⟨⟨by omega, by omega⟩, ?_⟩
    rw [rngD0, Int.toNat_natCast]
    refine lcW_any (inj := fun i : Nat => D.int (i : Nat)) (out := D.int) (fun _ v => 0 ≤ v ∧ v < c.p) m' ?_ (fun y => rfl) (List.range (colsN c c.ls.length)) [] (by rw [List.length_range]; show 0 + _ ≤ 16777216; omega) fun r hr => ?_
    · intro x m2 Θ2 hs2 hΘ2
      walk_at "dx"
      exact ⟨.int c.p, rfl, c.p, rfl, by rw [hs2, hs']; exact hs, by omega, by omega, fun v v0 v1 => hΘ2 v ⟨v0, v1⟩⟩
    · exact hΘ r ⟨by rw [all2_len hr]; exact colsN_eq, all2_mem hr⟩
  · exact q R (all2_len hR) (all2_mem hR)
end Dl

namespace Dl
open PySem L2
local macro_rules | `(tactic| walk_at "dl") => `(tactic| try simp only [dSeq, dSet, dRaise_one, dRaise_two, dTryAs, dXf, dIsE, List.lookup_cons, List.lookup_nil, beq_self_eq_true, Bool.false_eq_true, if_false, dOp, dUn, dVar, dC, dCB, dCons, dNil, dRet, dRetN, dIf, dB, dAnd, dOr, dNot, dDrop, dNext, dMethL, dSetIx, dAndV, dOrV, dNotV, dBlV, dIfE, dLst, dTup, dLstM, dCall, dChain, dAsg, dgName, dgTup, bindD, asT, dFor, diList, diRng1, diRng2, diEnumerate, diZip, diReversed, dLc, dLcM, dYes, wipeD, dAug, dSl, dSlT, dpN, dpS,
  oI, oI0, oB0, oAdd, oNeg, oEq, oNe, oIx, oIsN, oNotN, isNon, oShl, oApp, oPop, oPopAt, cLen, cInt, cAbs, cSum, cMax2, cMin2, cList, cIsi, tyD, asL, asF, asK, moL_lst, ModC, DivC,
  List.getElem?_cons_zero, List.getElem?_cons_succ, List.set_cons_zero, List.set_cons_succ, List.getElem?_nil, List.length_cons, List.length_nil, List.length_map, Option.map_some, Option.bind_some, Option.isSome_some, if_true, true_and, and_true, MM.push])
local macro_rules | `(tactic| walk_at "dx") => `(tactic| try simp only [eq_self_iff_true, okE_int, okE_bl, okE_non, eqD_int, eqD_bl, kq_NoneType_int, kq_NoneType_bool, kq_NoneType_list, kq_NoneType_tuple, kq_NoneType_str, kq_bool_int, kq_bool_bool, kq_bool_list, kq_bool_tuple, kq_bool_str, kq_int_int, kq_int_bool, kq_int_list, kq_int_tuple, kq_int_str, kq_str_int, kq_str_bool, kq_str_list, kq_str_tuple, kq_str_str, kq_list_int, kq_list_bool, kq_list_list, kq_list_tuple, kq_list_str, kq_tuple_int, kq_tuple_bool, kq_tuple_list, kq_tuple_tuple, kq_tuple_str, oInL, oIsB, oNotB, oEqH, oNeH, oShr, oExt, cMaxL, cMinL, cAny, cAll, cTuple, cListM, dRevL, dFld, dSetF, dAugF, dMeth, dMake, moI_ins, app_len, set_app, List.contains_cons, List.contains_nil, Bool.true_or,  Bool.true_eq_false, decide_true, not_true_eq_false, not_false_eq_true, Bool.not_true, Bool.not_false, decide_eq_true_eq, Bool.not_eq_true', decide_eq_false_iff_not, dSeq, dSet, dRaise_one, dRaise_two, dTryAs, dXf, dIsE, List.lookup_cons, List.lookup_nil, beq_self_eq_true, Bool.false_eq_true, if_false, dOp, dUn, dVar, dC, dCB, dCons, dNil, dRet, dRetN, dIf, dB, dAnd, dOr, dNot, dDrop, dNext, dMethL, dSetIx, dAndV, dOrV, dNotV, dBlV, dIfE, dLst, dTup, dLstM, dCall, dChain, dAsg, dgName, dgTup, bindD, asT, dFor, diList, diRng1, diRng2, diEnumerate, diZip, diReversed, dLc, dLcM, dYes, wipeD, dAug, dSl, dSlT, dpN, dpS,
  oI, oI0, oB0, oAdd, oNeg, oEq, oNe, oIx, oIsN, oNotN, isNon, oShl, oApp, oPop, oPopAt, cLen, cInt, cAbs, cSum, cMax2, cMin2, cList, cIsi, tyD, asL, asF, asK, moL_lst, ModC, DivC,
  List.getElem?_cons_zero, List.getElem?_cons_succ, List.set_cons_zero, List.set_cons_succ, List.getElem?_nil, List.length_cons, List.length_nil, List.length_map, Option.map_some, Option.bind_some, Option.isSome_some, if_true, true_and, and_true, MM.push])
local macro_rules | `(tactic| walk_at "lim") => `(tactic| repeat (first | (refine ⟨by decide, ?_⟩) | (refine ⟨by (try simp only [List.length_map, List.length_dropLast, List.length_append, List.length_cons, List.length_nil, List.length_replicate, List.length_take, List.length_drop, List.length_range]); (show _ ≤ 16777216); omega, ?_⟩)))

set_option hygiene false in
local macro_rules | `(tactic| walk_at "stp") => `(tactic| (refine dSeq_k fun k1 h1 => ?_; walk_at "dx"))
set_option hygiene false in
local macro_rules | `(tactic| walk_at "nxt") => `(tactic| (subst h1; (try dsimp only); refine dSeq_k fun k1 h1 => ?_; walk_at "dx"))
set_option hygiene false in
local macro_rules | `(tactic| walk_at "lst") => `(tactic| (subst h1; (try dsimp only); walk_at "dx"))
set_option hygiene false in
local macro_rules | `(tactic| walk_at "nxt2") => `(tactic| (subst h2; (try dsimp only); refine dSeq_k fun k2 h2 => ?_; walk_at "dx"))
set_option hygiene false in
local macro_rules | `(tactic| walk_at "stp2") => `(tactic| (refine dSeq_k fun k2 h2 => ?_; walk_at "dx"))
set_option hygiene false in
local macro_rules | `(tactic| walk_at "lst2") => `(tactic| (subst h2; (try dsimp only); walk_at "dx"))


def InP (p : Int) (xs : List Int) : Prop := ∀ x ∈ xs, 0 ≤ x ∧ x < p
theorem InP.gi {p : Int} {xs : List Int} (h : InP p xs) {z : Int} (h0 : 0 ≤ z) (hz : z < xs.length) : 0 ≤ gi xs z ∧ gi xs z < p := by
  have hl : z.toNat < xs.length := by omega
  unfold Dl.gi
  rw [List.getD_eq_getElem?_getD, List.getElem?_eq_getElem hl]
  exact h _ (List.getElem_mem hl)

/-- the values at 0, …, n - 1 -/
def vals (cs : List Int) (n : Nat) (p : Int) : List Int := (List.range n).map fun k : Nat => pev cs (k : Nat) % p

theorem InP.gN {p : Int} {xs : List Int} (h : InP p xs) {i : Nat} (hz : i < xs.length) : 0 ≤ Dl.gi xs (i : Nat) ∧ Dl.gi xs (i : Nat) < p := h.gi (by omega) (by omega)

theorem vals_len {cs : List Int} {n : Nat} {p : Int} : (vals cs n p).length = n := by
  unfold vals
  rw [List.length_map, List.length_range]
theorem vals_at {cs : List Int} {n k : Nat} {p : Int} (h : k < n) : gi (vals cs n p) (k : Nat) = pev cs (k : Nat) % p := by
  unfold vals
  rw [gi_range h]
/-! ### the value of a polynomial that is told by any values -/
def abM (k : Nat) (t p : Int) : Nat → Int
  | 0 => 1
  | j + 1 => if j = k then abM k t p j else abM k t p j * (t - (j : Nat)) % p
theorem abM_cg {k : Nat} {t p : Int} : ∀ j, Cg p (abM k t p j) (above k t j)
  | 0 => .refl
  | j + 1 => by
    unfold abM above
    split
    · exact abM_cg j
    · exact Cg.mod.trans ((abM_cg j).mul .refl)
theorem abM_in {k : Nat} {t p : Int} (hp : 2 ≤ p) : ∀ j, 0 ≤ abM k t p j ∧ abM k t p j < p
  | 0 => ⟨by show (0 : Int) ≤ 1; decide, by show (1 : Int) < p; omega⟩
  | j + 1 => by
    unfold abM
    split
    · exact abM_in hp j
    · exact mod_in hp
def wtM (n : Nat) (t p : Int) (k : Nat) : Int := abM k t p n * ((abM k (k : Nat) p n) ^ (p - 2).toNat % p) % p
def wtsV (n : Nat) (t p : Int) : List Int := (List.range n).map (wtM n t p)
theorem wtsV_len {n : Nat} {t p : Int} : (wtsV n t p).length = n := by unfold wtsV; rw [List.length_map, List.length_range]
def valV (vs : List Int) (t p : Int) : Int := if t < vs.length then gi vs t else (S vs.length fun k => gi vs (k : Nat) * wtM vs.length t p k) % p
theorem wtM_inv {p : Int} (P : Prim p) {n k : Nat} (hn : (n : Int) ≤ p) (hk : k < n) : Cg p (above k (k : Nat) n * (abM k (k : Nat) p n) ^ (p - 2).toNat) 1 := by
  have nb : ¬ Cg p (abM k (k : Nat) p n) 0 := fun z => above_ne P n hn (by omega) (abM_cg n |>.symm.trans z)
  rw [Int.mul_comm]
  exact (Cg.mul .refl (abM_cg n).symm).trans (fermat_inv P nb)
theorem valV_pev {p : Int} (P : Prim p) {cs : List Int} {n : Nat} {t : Int} (hcs : cs.length ≤ n) (hn0 : 0 < n) (hnp : (n : Int) ≤ p) (t0 : 0 ≤ t) : valV (vals cs n p) t p = pev cs t % p := by
  unfold valV
  rw [vals_len]
  split
  · rename_i h
    obtain ⟨t, rfl⟩ := Int.eq_ofNat_of_zero_le t0
    exact vals_at (by omega)
  · obtain ⟨j, rfl⟩ : ∃ j, n = j + 1 := ⟨n - 1, by omega⟩
    have lg := lagrange P (n := j) hnp (Pol.pev (p := p) cs hcs) (fun k => (abM k (k : Nat) p (j + 1)) ^ (p - 2).toNat) (fun k hk => wtM_inv P hnp (by omega)) t
    refine Cg.trans (S_cg (p := p) (j + 1) fun k hk => ?_) lg
    refine Cg.mul ?_ ?_
    · rw [vals_at hk]; exact .mod
    · exact Cg.mod.trans ((abM_cg _).mul .mod)
def C_weights : DC := fun ds m Φ _ => ∃ (n : Nat) (t p : Int), ds = [.int n, .int t, .int p] ∧ PM p ∧ Prim p ∧ (n : Int) ≤ p ∧ n ≤ 1000 ∧ Φ (.lst ((wtsV n t p).map D.int)) m
def W_weights : DS := dSeq (dSet 3 (dLstM (dNil))) (dSeq (dFor (diRng1 (dCons (dVar 0) (dNil))) (dgName 4) (dSeq (dSet 5 (dC (.int 1))) (dSeq (dSet 6 (dC (.int 1))) (dSeq (dFor (diRng1 (dCons (dVar 0) (dNil))) (dgName 7) (dIf (dB (dOp oNe (dVar 7) (dVar 4))) (dSeq (dSet 5 (dOp oMod (dOp oMul (dVar 5) (dOp oSub (dVar 1) (dVar 7))) (dVar 2))) (dSet 6 (dOp oMod (dOp oMul (dVar 6) (dOp oSub (dVar 4) (dVar 7))) (dVar 2)))) (dNext))) (dDrop (dMethL oApp (dVar 3) (dCons (dOp oMod (dOp oMul (dVar 5) (dCall 2 C_inverse (dCons (dVar 6) (dCons (dVar 2) (dNil))))) (dVar 2)) (dNil)))))))) (dRet (dVar 3)))
theorem rd_weights : ∀ ds m Φ Ψ, ds.length = 3 → C_weights ds m Φ Ψ → W_weights { nx := fun _ m' => retQ m Φ .non m', rt := retQ m Φ } (fun _ => retX m Ψ) (ds.map some ++ List.replicate (8 - ds.length) none) m := by
  intro ds m Φ Ψ _ h
  obtain ⟨n, t, p, rfl, hp, P, hn, hn2, q⟩ := h
  have hp1 := hp.1
  have hp2 := hp.2
  change W_weights _ _ [some (.int n), some (.int t), some (.int p), none, none, none, none, none] m
  unfold W_weights
  refine dSeq_k fun k1 h1 => ?_
  walk_at "dx"
  refine ⟨by decide, ?_⟩
  subst h1
  refine dSeq_k fun k1 h1 => ?_
  walk_at "dx"
  refine ⟨⟨by omega, by omega⟩, ?_⟩
  rw [rngD0, Int.toNat_natCast]
  refine forW_nat (fun k ρ m' => ∃ (v4 v5 v6 v7 : Option D), ρ = [some (.int n), some (.int t), some (.int p), some (.hnd m.M.length), v4, v5, v6, v7] ∧ m' = ⟨m.M ++ [MO.lst (((List.range k).map (wtM n t p)).map D.int)], m.s⟩) ?_ ?_ ⟨_, _, _, _, rfl, rfl⟩
  · rintro k kk hk hkk ρ m' ⟨v4, v5, v6, v7, rfl, rfl⟩
    clear h1
    refine dSeq_k fun k1 h1 => ?_
    walk_at "dx"
    subst h1
    refine dSeq_k fun k1 h1 => ?_
    walk_at "dx"
    subst h1
    refine dSeq_k fun k1 h1 => ?_
    walk_at "dx"
    refine ⟨⟨by omega, by omega⟩, ?_⟩
    rw [rngD0, Int.toNat_natCast]
    refine forW_nat (fun j ρ m2 => ∃ (v7 : Option D), ρ = [some (.int n), some (.int t), some (.int p), some (.hnd m.M.length), some (.int k), some (.int (abM k t p j)), some (.int (abM k (k : Nat) p j)), v7] ∧ m2 = ⟨m.M ++ [MO.lst (((List.range k).map (wtM n t p)).map D.int)], m.s⟩) ?_ ?_ ⟨_, rfl, rfl⟩
    · rintro j kj hj hkj ρ m' ⟨v7, rfl, rfl⟩
      clear h1
      have a0 := abM_in (k := k) (t := t) hp1 j
      have b0 := abM_in (k := k) (t := (k : Nat)) hp1 j
      walk_at "dx"
      by_cases e : j = k
      · rw [if_neg (by simpa using (by omega : (j : Int) = k))]
        exact hkj _ _ ⟨_, by rw [show abM k t p (j + 1) = abM k t p j from if_pos e, show abM k (k : Nat) p (j + 1) = abM k (k : Nat) p j from if_pos e], rfl⟩
      · rw [if_pos (by simpa using (by omega : ¬ (j : Int) = k))]
        refine ⟨mulL a0.1 (by omega), by omega, mulL b0.1 (by omega), by omega, ?_⟩
        exact hkj _ _ ⟨_, by rw [show abM k t p (j + 1) = abM k t p j * (t - (j : Nat)) % p from if_neg e, show abM k (k : Nat) p (j + 1) = abM k (k : Nat) p j * ((k : Nat) - (j : Nat)) % p from if_neg e], rfl⟩
    · rintro ρ m' ⟨v7, rfl, rfl⟩
      subst h1
      have a0 := abM_in (k := k) (t := t) hp1 n
      have nb : ¬ Cg p (abM k (k : Nat) p n) 0 := fun z => above_ne P n hn (by omega) ((abM_cg n).symm.trans z)
      have nb2 : abM k (k : Nat) p n % p ≠ 0 := fun z => nb (by unfold Cg; rw [z]; rfl)
      walk_at "dx"
      refine ⟨_, p, rfl, hp, fun z => absurd z nb2, fun _ => ?_⟩
      walk_at "dx"
      have i0 := mod_in hp1 (z := abM k (k : Nat) p n ^ (p - 2).toNat)
      refine ⟨mulL a0.1 (by omega), by omega, by show _ < 16777216; simp only [List.length_map, List.length_range]; omega, hkk _ _ ⟨_, _, _, _, rfl, ?_⟩⟩
      rw [List.range_succ, List.map_append, List.map_append]
      rfl
  · rintro ρ m' ⟨v4, v5, v6, v7, rfl, rfl⟩
    subst h1
    walk_at "dx"
    exact retQ_lst (clAll_ints _) q
def C_value : DC := fun ds m Φ _ => ∃ (vs : List Int) (t p : Int), ds = [.lst (vs.map D.int), .int t, .int p] ∧ PM p ∧ Prim p ∧ InP p vs ∧ vs.length ≤ 1000 ∧ (vs.length : Int) ≤ p ∧ 0 ≤ t ∧ Φ (.int (valV vs t p)) m
def W_value : DS := dSeq (dIf (dB (dOp oLt (dVar 1) (dCB cLen (dCons (dVar 0) (dNil))))) (dRet (dOp oIx (dVar 0) (dVar 1))) (dNext)) (dSeq (dSet 3 (dC (.int 0))) (dSeq (dFor (diEnumerate (dCons (dCall 3 C_weights (dCons (dCB cLen (dCons (dVar 0) (dNil))) (dCons (dVar 1) (dCons (dVar 2) (dNil))))) (dNil))) (dgTup [4, 5]) (dAug 3 (oI0 fun i j => i + j) (dOp oMul (dOp oIx (dVar 0) (dVar 4)) (dVar 5)))) (dRet (dOp oMod (dVar 3) (dVar 2)))))
theorem rd_value : ∀ ds m Φ Ψ, ds.length = 3 → C_value ds m Φ Ψ → W_value { nx := fun _ m' => Φ .non m', rt := Φ } (fun _ => Ψ) (ds.map some ++ List.replicate (6 - ds.length) none) m := by
  intro ds m Φ Ψ _ h
  obtain ⟨vs, t, p, rfl, hp, P, vi, hn, hnp, t0, q⟩ := h
  have hp1 := hp.1
  have hp2 := hp.2
  change W_value _ _ [some (D.lst (vs.map D.int)), some (.int t), some (.int p), none, none, none] m
  unfold W_value
  unfold valV at q
  refine dSeq_k fun k1 h1 => ?_
  walk_at "dx"
  by_cases ht : t < vs.length
  · rw [if_pos ht] at q
    rw [if_pos ht]
    exact ⟨_, atI_gi t0 ht, q⟩
  · rw [if_neg ht] at q
    rw [if_neg ht]
    subst h1
    refine dSeq_k fun k1 h1 => ?_
    walk_at "dx"
    subst h1
    refine dSeq_k fun k1 h1 => ?_
    walk_at "dx"
    refine ⟨vs.length, t, p, rfl, hp, P, hnp, hn, ?_⟩
    walk_at "dx"
    refine forW_enum (inj := D.int) (fun i r ρ m' => ∃ (v4 v5 : Option D), ρ = [some (D.lst (vs.map D.int)), some (.int t), some (.int p), some (.int (S i fun j => gi vs (j : Nat) * wtM vs.length t p j)), v4, v5] ∧ m' = m ∧ r = (wtsV vs.length t p).drop i ∧ i ≤ vs.length) ?_ ?_ (wtsV vs.length t p) 0 _ _ ⟨_, _, rfl, rfl, rfl, by omega⟩
    · rintro i w r kk hk ρ m' ⟨v4, v5, rfl, rfl, hr, hi⟩
      have hil : i < (wtsV vs.length t p).length := by
        rcases Nat.lt_or_ge i (wtsV vs.length t p).length with z | z
        · exact z
        · rw [List.drop_eq_nil_of_le z] at hr
          cases hr
      rw [List.drop_eq_getElem_cons hil] at hr
      obtain ⟨rfl, hr2⟩ := List.cons.inj hr
      rw [wtsV_len] at hil
      have ew : (wtsV vs.length t p)[i]'(by rw [wtsV_len]; exact hil) = wtM vs.length t p i := by unfold wtsV; rw [List.getElem_map, List.getElem_range]
      have hg := vi.gN (i := i) hil
      walk_at "dx"
      rw [ew]
      refine ⟨_, atI_gi (by omega) (by omega), mulL hg.1 (by omega), ?_⟩
      walk_at "dx"
      exact hk _ _ ⟨_, _, rfl, rfl, hr2, by omega⟩
    · rintro i ρ m' ⟨v4, v5, rfl, rfl, hr, hi⟩
      have e : i = vs.length := by
        have := congrArg List.length hr
        rw [List.length_nil, List.length_drop, wtsV_len] at this
        omega
      rw [e]
      subst h1
      walk_at "dx"
      exact ⟨by omega, q⟩
/-! ### folding, products, sums over the corners -/
def foldS (p : Int) (t : List Int) (x : Int) : List Int := (List.range (t.length / 2)).map fun k => (gi t (2 * (k : Nat)) + x * (gi t (2 * (k : Nat) + 1) - gi t (2 * (k : Nat)))) % p
def C_fold : DC := fun ds m Φ _ => ∃ (t : List Int) (x p : Int), ds = [.lst (t.map D.int), .int x, .int p] ∧ PM p ∧ InP p t ∧ t.length ≤ 65536 ∧ Φ (.lst ((foldS p t x).map D.int)) m
def W_fold : DS := dSeq (dSet 3 (dOp oDiv (dCB cLen (dCons (dVar 0) (dNil))) (dC (.int 2)))) (dRet (dLc (diRng1 (dCons (dVar 3) (dNil))) (dgName 4) (dYes) (dOp oMod (dOp oAdd (dOp oIx (dVar 0) (dOp oMul (dC (.int 2)) (dVar 4))) (dOp oMul (dVar 1) (dOp oSub (dOp oIx (dVar 0) (dOp oAdd (dOp oMul (dC (.int 2)) (dVar 4)) (dC (.int 1)))) (dOp oIx (dVar 0) (dOp oMul (dC (.int 2)) (dVar 4)))))) (dVar 2)) [4]))
theorem inP_mod {p : Int} (hp : 2 ≤ p) {α : Type} (f : α → Int) (xs : List α) : InP p (xs.map fun x => f x % p) := fun y hy => by
  obtain ⟨x, _, rfl⟩ := List.mem_map.mp hy
  exact ⟨Int.emod_nonneg _ (by omega), Int.emod_lt_of_pos _ (by omega)⟩
theorem foldS_len {p x : Int} {t : List Int} : (foldS p t x).length = t.length / 2 := by
  unfold foldS
  rw [List.length_map, List.length_range]
theorem foldS_in {p x : Int} (hp : 2 ≤ p) {t : List Int} : InP p (foldS p t x) := by
  unfold foldS
  exact inP_mod hp _ _
theorem rd_fold : ∀ ds m Φ Ψ, ds.length = 3 → C_fold ds m Φ Ψ → W_fold { nx := fun _ m' => Φ .non m', rt := Φ } (fun _ => Ψ) (ds.map some ++ List.replicate (5 - ds.length) none) m := by
  intro ds m Φ Ψ _ h
  obtain ⟨t, x, p, rfl, ⟨hp, hp2⟩, ht, hl, q⟩ := h
  change W_fold _ _ [some (D.lst (t.map D.int)), some (.int x), some (.int p), none, none] m
  unfold W_fold
  walk_at "dl"
  have h2 : (((t.length : Nat) : Int) / 2).toNat = t.length / 2 := by omega
  refine ⟨⟨by decide, by decide⟩, ⟨by omega, by omega⟩, ?_⟩
  rw [h2]
  simp only [rngD0]
  refine lcW_fn (out := D.int) (fun k : Nat => (gi t (2 * (k : Nat)) + x * (gi t (2 * (k : Nat) + 1) - gi t (2 * (k : Nat)))) % p) _ (List.range (t.length / 2)) (fun k hk m2 Θ hΘ => ?_) (fun _ => rfl) (by rw [List.length_range]; show _ ≤ 16777216; omega) q
  have hk := List.mem_range.mp hk
  have g0 := ht.gi (z := 2 * (k : Nat)) (by omega) (by omega)
  have g1 := ht.gi (z := 2 * (k : Nat) + 1) (by omega) (by omega)
  walk_at "dl"
  refine ⟨mulR (by omega) (by omega), _, atI_gi (by omega) (by omega), mulR (by omega) (by omega), _, atI_gi (by omega) (by omega), mulR (by omega) (by omega), _, atI_gi (by omega) (by omega), ?_⟩
  walk_at "dl"
  exact ⟨.inr (.inl ⟨by omega, by omega⟩), by omega, hΘ⟩
/-! ### sums over a comprehension with two walks -/
end Dl

namespace Dl
open PySem L2
local macro_rules | `(tactic| walk_at "dl") => `(tactic| try simp only [dSeq, dSet, dRaise_one, dRaise_two, dTryAs, dXf, dIsE, List.lookup_cons, List.lookup_nil, beq_self_eq_true, Bool.false_eq_true, if_false, dOp, dUn, dVar, dC, dCB, dCons, dNil, dRet, dRetN, dIf, dB, dAnd, dOr, dNot, dDrop, dNext, dMethL, dSetIx, dAndV, dOrV, dNotV, dBlV, dIfE, dLst, dTup, dLstM, dCall, dChain, dAsg, dgName, dgTup, bindD, asT, dFor, diList, diRng1, diRng2, diEnumerate, diZip, diReversed, dLc, dLcM, dYes, wipeD, dAug, dSl, dSlT, dpN, dpS,
  oI, oI0, oB0, oAdd, oNeg, oEq, oNe, oIx, oIsN, oNotN, isNon, oShl, oApp, oPop, oPopAt, cLen, cInt, cAbs, cSum, cMax2, cMin2, cList, cIsi, tyD, asL, asF, asK, moL_lst, ModC, DivC,
  List.getElem?_cons_zero, List.getElem?_cons_succ, List.set_cons_zero, List.set_cons_succ, List.getElem?_nil, List.length_cons, List.length_nil, List.length_map, Option.map_some, Option.bind_some, Option.isSome_some, if_true, true_and, and_true, MM.push])
local macro_rules | `(tactic| walk_at "dx") => `(tactic| try simp only [eq_self_iff_true, okE_int, okE_bl, okE_non, eqD_int, eqD_bl, kq_NoneType_int, kq_NoneType_bool, kq_NoneType_list, kq_NoneType_tuple, kq_NoneType_str, kq_bool_int, kq_bool_bool, kq_bool_list, kq_bool_tuple, kq_bool_str, kq_int_int, kq_int_bool, kq_int_list, kq_int_tuple, kq_int_str, kq_str_int, kq_str_bool, kq_str_list, kq_str_tuple, kq_str_str, kq_list_int, kq_list_bool, kq_list_list, kq_list_tuple, kq_list_str, kq_tuple_int, kq_tuple_bool, kq_tuple_list, kq_tuple_tuple, kq_tuple_str, oInL, oIsB, oNotB, oEqH, oNeH, oShr, oExt, cMaxL, cMinL, cAny, cAll, cTuple, cListM, dRevL, dFld, dSetF, dAugF, dMeth, dMake, moI_ins, app_len, set_app, List.contains_cons, List.contains_nil, Bool.true_or,  Bool.true_eq_false, decide_true, not_true_eq_false, not_false_eq_true, Bool.not_true, Bool.not_false, decide_eq_true_eq, Bool.not_eq_true', decide_eq_false_iff_not, dSeq, dSet, dRaise_one, dRaise_two, dTryAs, dXf, dIsE, List.lookup_cons, List.lookup_nil, beq_self_eq_true, Bool.false_eq_true, if_false, dOp, dUn, dVar, dC, dCB, dCons, dNil, dRet, dRetN, dIf, dB, dAnd, dOr, dNot, dDrop, dNext, dMethL, dSetIx, dAndV, dOrV, dNotV, dBlV, dIfE, dLst, dTup, dLstM, dCall, dChain, dAsg, dgName, dgTup, bindD, asT, dFor, diList, diRng1, diRng2, diEnumerate, diZip, diReversed, dLc, dLcM, dYes, wipeD, dAug, dSl, dSlT, dpN, dpS,
  oI, oI0, oB0, oAdd, oNeg, oEq, oNe, oIx, oIsN, oNotN, isNon, oShl, oApp, oPop, oPopAt, cLen, cInt, cAbs, cSum, cMax2, cMin2, cList, cIsi, tyD, asL, asF, asK, moL_lst, ModC, DivC,
  List.getElem?_cons_zero, List.getElem?_cons_succ, List.set_cons_zero, List.set_cons_succ, List.getElem?_nil, List.length_cons, List.length_nil, List.length_map, Option.map_some, Option.bind_some, Option.isSome_some, if_true, true_and, and_true, MM.push])
local macro_rules | `(tactic| walk_at "lim") => `(tactic| repeat (first | (refine ⟨by decide, ?_⟩) | (refine ⟨by (try simp only [List.length_map, List.length_dropLast, List.length_append, List.length_cons, List.length_nil, List.length_replicate, List.length_take, List.length_drop, List.length_range]); (show _ ≤ 16777216); omega, ?_⟩)))

set_option hygiene false in
local macro_rules | `(tactic| walk_at "stp") => `(tactic| (refine dSeq_k fun k1 h1 => ?_; walk_at "dx"))
set_option hygiene false in
local macro_rules | `(tactic| walk_at "nxt") => `(tactic| (subst h1; (try dsimp only); refine dSeq_k fun k1 h1 => ?_; walk_at "dx"))
set_option hygiene false in
local macro_rules | `(tactic| walk_at "lst") => `(tactic| (subst h1; (try dsimp only); walk_at "dx"))
set_option hygiene false in
local macro_rules | `(tactic| walk_at "nxt2") => `(tactic| (subst h2; (try dsimp only); refine dSeq_k fun k2 h2 => ?_; walk_at "dx"))
set_option hygiene false in
local macro_rules | `(tactic| walk_at "stp2") => `(tactic| (refine dSeq_k fun k2 h2 => ?_; walk_at "dx"))
set_option hygiene false in
local macro_rules | `(tactic| walk_at "lst2") => `(tactic| (subst h2; (try dsimp only); walk_at "dx"))

/-! ### the asker of a sum -/
def sentD : Option (List Int) → D
  | none => .non
  | some vs => .lst (vs.map D.int)
def askF (p cl : Int) (degs : List Int) (j : Nat) (sent : Option (List Int)) : List (String × D) := [("p", .int p), ("claim", .int cl), ("degrees", .lst (degs.map D.int)), ("throws", .hnd j), ("sent", sentD sent)]
structure Ask (m : MM) (k j : Nat) (p cl : Int) (degs ths : List Int) (sent : Option (List Int)) : Prop where
  ob : m.M[k]? = some (.ins "SumAsker" (askF p cl degs j sent))
  th : m.M[j]? = some (.lst (ths.map D.int))
  pm : PM p
  pr : Prim p
  lt : ths.length ≤ degs.length
  ld : degs.length ≤ 1000
  se : ∀ vs, sent = some vs → InP p vs ∧ vs.length ≤ 1000 ∧ (vs.length : Int) ≤ p ∧ 0 < vs.length
theorem Ask.ne {m : MM} {k j : Nat} {p cl : Int} {degs ths : List Int} {sent : Option (List Int)} (h : Ask m k j p cl degs ths sent) : k ≠ j := fun e => by
  have a := h.ob
  rw [e, h.th] at a
  cases a
/-- the fields' classes, as a law has them -/
class Fl_SumAsker (fl : String → List String) : Prop where
  p : (fl "p").contains "SumAsker" = true
  claim : (fl "claim").contains "SumAsker" = true
  degrees : (fl "degrees").contains "SumAsker" = true
  throws : (fl "throws").contains "SumAsker" = true
  sent : (fl "sent").contains "SumAsker" = true
local macro_rules | `(tactic| walk_at "dz") => `(tactic| (walk_at "dx"; (try simp only [Fl_SumAsker.p, Fl_SumAsker.claim, Fl_SumAsker.degrees, Fl_SumAsker.throws, Fl_SumAsker.sent, true_and])))
end Dl

namespace Dl
open PySem L2
local macro_rules | `(tactic| walk_at "dl") => `(tactic| try simp only [dSeq, dSet, dRaise_one, dRaise_two, dTryAs, dXf, dIsE, List.lookup_cons, List.lookup_nil, beq_self_eq_true, Bool.false_eq_true, if_false, dOp, dUn, dVar, dC, dCB, dCons, dNil, dRet, dRetN, dIf, dB, dAnd, dOr, dNot, dDrop, dNext, dMethL, dSetIx, dAndV, dOrV, dNotV, dBlV, dIfE, dLst, dTup, dLstM, dCall, dChain, dAsg, dgName, dgTup, bindD, asT, dFor, diList, diRng1, diRng2, diEnumerate, diZip, diReversed, dLc, dLcM, dYes, wipeD, dAug, dSl, dSlT, dpN, dpS,
  oI, oI0, oB0, oAdd, oNeg, oEq, oNe, oIx, oIsN, oNotN, isNon, oShl, oApp, oPop, oPopAt, cLen, cInt, cAbs, cSum, cMax2, cMin2, cList, cIsi, tyD, asL, asF, asK, moL_lst, ModC, DivC,
  List.getElem?_cons_zero, List.getElem?_cons_succ, List.set_cons_zero, List.set_cons_succ, List.getElem?_nil, List.length_cons, List.length_nil, List.length_map, Option.map_some, Option.bind_some, Option.isSome_some, if_true, true_and, and_true, MM.push])
local macro_rules | `(tactic| walk_at "dx") => `(tactic| try simp only [eq_self_iff_true, okE_int, okE_bl, okE_non, eqD_int, eqD_bl, kq_NoneType_int, kq_NoneType_bool, kq_NoneType_list, kq_NoneType_tuple, kq_NoneType_str, kq_bool_int, kq_bool_bool, kq_bool_list, kq_bool_tuple, kq_bool_str, kq_int_int, kq_int_bool, kq_int_list, kq_int_tuple, kq_int_str, kq_str_int, kq_str_bool, kq_str_list, kq_str_tuple, kq_str_str, kq_list_int, kq_list_bool, kq_list_list, kq_list_tuple, kq_list_str, kq_tuple_int, kq_tuple_bool, kq_tuple_list, kq_tuple_tuple, kq_tuple_str, oInL, oIsB, oNotB, oEqH, oNeH, oShr, oExt, cMaxL, cMinL, cAny, cAll, cTuple, cListM, dRevL, dFld, dSetF, dAugF, dMeth, dMake, moI_ins, app_len, set_app, List.contains_cons, List.contains_nil, Bool.true_or,  Bool.true_eq_false, decide_true, not_true_eq_false, not_false_eq_true, Bool.not_true, Bool.not_false, decide_eq_true_eq, Bool.not_eq_true', decide_eq_false_iff_not, dSeq, dSet, dRaise_one, dRaise_two, dTryAs, dXf, dIsE, List.lookup_cons, List.lookup_nil, beq_self_eq_true, Bool.false_eq_true, if_false, dOp, dUn, dVar, dC, dCB, dCons, dNil, dRet, dRetN, dIf, dB, dAnd, dOr, dNot, dDrop, dNext, dMethL, dSetIx, dAndV, dOrV, dNotV, dBlV, dIfE, dLst, dTup, dLstM, dCall, dChain, dAsg, dgName, dgTup, bindD, asT, dFor, diList, diRng1, diRng2, diEnumerate, diZip, diReversed, dLc, dLcM, dYes, wipeD, dAug, dSl, dSlT, dpN, dpS,
  oI, oI0, oB0, oAdd, oNeg, oEq, oNe, oIx, oIsN, oNotN, isNon, oShl, oApp, oPop, oPopAt, cLen, cInt, cAbs, cSum, cMax2, cMin2, cList, cIsi, tyD, asL, asF, asK, moL_lst, ModC, DivC,
  List.getElem?_cons_zero, List.getElem?_cons_succ, List.set_cons_zero, List.set_cons_succ, List.getElem?_nil, List.length_cons, List.length_nil, List.length_map, Option.map_some, Option.bind_some, Option.isSome_some, if_true, true_and, and_true, MM.push])
local macro_rules | `(tactic| walk_at "lim") => `(tactic| repeat (first | (refine ⟨by decide, ?_⟩) | (refine ⟨by (try simp only [List.length_map, List.length_dropLast, List.length_append, List.length_cons, List.length_nil, List.length_replicate, List.length_take, List.length_drop, List.length_range]); (show _ ≤ 16777216); omega, ?_⟩)))

set_option hygiene false in
local macro_rules | `(tactic| walk_at "stp") => `(tactic| (refine dSeq_k fun k1 h1 => ?_; walk_at "dx"))
set_option hygiene false in
local macro_rules | `(tactic| walk_at "nxt") => `(tactic| (subst h1; (try dsimp only); refine dSeq_k fun k1 h1 => ?_; walk_at "dx"))
set_option hygiene false in
local macro_rules | `(tactic| walk_at "lst") => `(tactic| (subst h1; (try dsimp only); walk_at "dx"))
set_option hygiene false in
local macro_rules | `(tactic| walk_at "nxt2") => `(tactic| (subst h2; (try dsimp only); refine dSeq_k fun k2 h2 => ?_; walk_at "dx"))
set_option hygiene false in
local macro_rules | `(tactic| walk_at "stp2") => `(tactic| (refine dSeq_k fun k2 h2 => ?_; walk_at "dx"))
set_option hygiene false in
local macro_rules | `(tactic| walk_at "lst2") => `(tactic| (subst h2; (try dsimp only); walk_at "dx"))

def corn (i left : Nat) : List Int := (List.range left).map fun j : Nat => ((i / 2 ^ j % 2 : Nat) : Int)
theorem cutT {xs : List D} {k : Nat} (h : k ≤ xs.length) : cutD xs none (some (k : Nat)) = xs.take k := by
  unfold cutD
  rw [HT.sIx_none, HT.sIx_nat, List.drop_zero, Nat.min_eq_left h, Nat.sub_zero]
theorem cutR {xs : List D} {k : Nat} (h : k ≤ xs.length) : cutD xs (some (k : Nat)) none = xs.drop k := by
  unfold cutD
  rw [HT.sIx_none, HT.sIx_nat, Nat.min_eq_left h, List.take_of_length_le (by rw [List.length_drop]; omega)]
/-! ### the plain law: sums over corners, one variable at a time -/
theorem corn_succ {i l : Nat} : corn i (l + 1) = ((i % 2 : Nat) : Int) :: corn (i / 2) l := by
  unfold corn
  rw [List.range_succ_eq_map, List.map_cons, List.map_map]
  congr 1
  · rw [Nat.pow_zero, Nat.div_one]
  · refine List.map_congr_left fun j _ => ?_
    show ((i / 2 ^ (j + 1) % 2 : Nat) : Int) = _
    rw [Nat.div_div_eq_div_mul, ← Nat.pow_succ']
theorem rep_flat {x : Int} : ∀ n : Nat, (List.replicate n [D.int x]).flatten = (List.replicate n x).map D.int
  | 0 => rfl
  | n + 1 => by rw [List.replicate_succ, List.flatten_cons, rep_flat n]; rfl
theorem memD_ints {t : Int} {xs : List Int} : memD (.int t) (xs.map D.int) = decide (t ∈ xs) := by
  unfold memD
  rw [Bool.eq_iff_iff, List.any_eq_true, decide_eq_true_eq]
  constructor
  · rintro ⟨y, hy, e⟩
    obtain ⟨x, hx, rfl⟩ := List.mem_map.mp hy
    rw [eqD_int] at e
    rw [← of_decide_eq_true e]; exact hx
  · intro h
    exact ⟨.int t, List.mem_map.mpr ⟨t, h, rfl⟩, by rw [eqD_int]; exact decide_eq_true rfl⟩
/-! ### polynomials by any values -/
theorem S_one {f : Nat → Int} {i : Nat} (h : ∀ k, k ≠ i → f k = 0) : ∀ n : Nat, S n f = if i < n then f i else 0
  | 0 => rfl
  | n + 1 => by
    show S n f + f n = _
    rw [S_one h n]
    by_cases z : i < n
    · rw [if_pos z, if_pos (by omega), h n (by omega)]; omega
    · rw [if_neg z]
      by_cases e : n = i
      · subst e; rw [if_pos (by omega)]; omega
      · rw [if_neg (by omega), h n e]; omega
theorem S_oneC {p : Int} {f : Nat → Int} {i n : Nat} (hi : i < n) (h : ∀ k, k < n → k ≠ i → Cg p (f k) 0) : Cg p (S n f) (f i) := by
  refine Cg.trans (S_cg (p := p) (g := fun k => if k = i then f i else 0) n fun k hk => ?_) ?_
  · by_cases z : k = i
    · subst z; show Cg p (f k) (if k = k then f k else 0); rw [if_pos rfl]; exact .refl
    · show Cg p (f k) (if k = i then f i else 0); rw [if_neg z]; exact h k hk z
  · rw [S_one (i := i) (fun k hk => if_neg hk), if_pos hi, if_pos rfl]; exact .refl
theorem interp {p : Int} (P : Prim p) (hp : 2 ≤ p) {vs : List Int} (h0 : 0 < vs.length) (hn : (vs.length : Int) ≤ p) (hin : InP p vs) : ∃ cs : List Int, cs.length ≤ vs.length ∧ vals cs vs.length p = vs := by
  obtain ⟨n, hl⟩ : ∃ n, vs.length = n + 1 := ⟨vs.length - 1, by omega⟩
  rw [hl] at hn
  obtain ⟨cs, hcl, hcs⟩ : Pol p n fun t => S (n + 1) fun k => gi vs (k : Nat) * (above k t (n + 1) * (abM k (k : Nat) p (n + 1)) ^ (p - 2).toNat) := Pol.sum (n + 1) fun k hk =>
    (((above_pol (p := p) k (n + 1)).2 hk).smul (gi vs (k : Nat) * (abM k (k : Nat) p (n + 1)) ^ (p - 2).toNat)).congr fun t => .of_eq (by rw [Int.mul_assoc, Int.mul_comm (above k t (n + 1))])
  refine ⟨cs, by omega, ?_⟩
  refine List.ext_getElem (by rw [vals_len]) fun i h1 h2 => ?_
  have hi : i < n + 1 := by omega
  have z := hcs (i : Nat)
  have key : Cg p (S (n + 1) fun k => gi vs (k : Nat) * (above k (i : Nat) (n + 1) * (abM k (k : Nat) p (n + 1)) ^ (p - 2).toNat)) (gi vs (i : Nat)) := by
    refine (S_oneC hi fun k hk hki => ?_).trans ?_
    · rw [above_zero (fun e => hki e.symm) (n + 1) hi, Int.zero_mul, Int.mul_zero]; exact .refl
    · exact (Cg.mul .refl (wtM_inv P hn hi)).trans (.of_eq (Int.mul_one _))
  have w : Cg p (pev cs (i : Nat)) (gi vs (i : Nat)) := z.symm.trans key
  have g1 : gi vs (i : Nat) = vs[i] := by rw [gi_nat, List.getD_eq_getElem?_getD, List.getElem?_eq_getElem h2]; rfl
  have b := hin vs[i] (List.getElem_mem h2)
  have e1 : (vals cs vs.length p)[i] = pev cs (i : Nat) % p := by simp [vals]
  rw [e1, ← g1]
  unfold Cg at w
  rw [w, g1, Int.emod_eq_of_lt b.1 b.2]
end Dl

namespace Dl
open PySem L2
local macro_rules | `(tactic| walk_at "dl") => `(tactic| try simp only [dSeq, dSet, dRaise_one, dRaise_two, dTryAs, dXf, dIsE, List.lookup_cons, List.lookup_nil, beq_self_eq_true, Bool.false_eq_true, if_false, dOp, dUn, dVar, dC, dCB, dCons, dNil, dRet, dRetN, dIf, dB, dAnd, dOr, dNot, dDrop, dNext, dMethL, dSetIx, dAndV, dOrV, dNotV, dBlV, dIfE, dLst, dTup, dLstM, dCall, dChain, dAsg, dgName, dgTup, bindD, asT, dFor, diList, diRng1, diRng2, diEnumerate, diZip, diReversed, dLc, dLcM, dYes, wipeD, dAug, dSl, dSlT, dpN, dpS,
  oI, oI0, oB0, oAdd, oNeg, oEq, oNe, oIx, oIsN, oNotN, isNon, oShl, oApp, oPop, oPopAt, cLen, cInt, cAbs, cSum, cMax2, cMin2, cList, cIsi, tyD, asL, asF, asK, moL_lst, ModC, DivC,
  List.getElem?_cons_zero, List.getElem?_cons_succ, List.set_cons_zero, List.set_cons_succ, List.getElem?_nil, List.length_cons, List.length_nil, List.length_map, Option.map_some, Option.bind_some, Option.isSome_some, if_true, true_and, and_true, MM.push])
local macro_rules | `(tactic| walk_at "dx") => `(tactic| try simp only [eq_self_iff_true, okE_int, okE_bl, okE_non, eqD_int, eqD_bl, kq_NoneType_int, kq_NoneType_bool, kq_NoneType_list, kq_NoneType_tuple, kq_NoneType_str, kq_bool_int, kq_bool_bool, kq_bool_list, kq_bool_tuple, kq_bool_str, kq_int_int, kq_int_bool, kq_int_list, kq_int_tuple, kq_int_str, kq_str_int, kq_str_bool, kq_str_list, kq_str_tuple, kq_str_str, kq_list_int, kq_list_bool, kq_list_list, kq_list_tuple, kq_list_str, kq_tuple_int, kq_tuple_bool, kq_tuple_list, kq_tuple_tuple, kq_tuple_str, oInL, oIsB, oNotB, oEqH, oNeH, oShr, oExt, cMaxL, cMinL, cAny, cAll, cTuple, cListM, dRevL, dFld, dSetF, dAugF, dMeth, dMake, moI_ins, app_len, set_app, List.contains_cons, List.contains_nil, Bool.true_or,  Bool.true_eq_false, decide_true, not_true_eq_false, not_false_eq_true, Bool.not_true, Bool.not_false, decide_eq_true_eq, Bool.not_eq_true', decide_eq_false_iff_not, dSeq, dSet, dRaise_one, dRaise_two, dTryAs, dXf, dIsE, List.lookup_cons, List.lookup_nil, beq_self_eq_true, Bool.false_eq_true, if_false, dOp, dUn, dVar, dC, dCB, dCons, dNil, dRet, dRetN, dIf, dB, dAnd, dOr, dNot, dDrop, dNext, dMethL, dSetIx, dAndV, dOrV, dNotV, dBlV, dIfE, dLst, dTup, dLstM, dCall, dChain, dAsg, dgName, dgTup, bindD, asT, dFor, diList, diRng1, diRng2, diEnumerate, diZip, diReversed, dLc, dLcM, dYes, wipeD, dAug, dSl, dSlT, dpN, dpS,
  oI, oI0, oB0, oAdd, oNeg, oEq, oNe, oIx, oIsN, oNotN, isNon, oShl, oApp, oPop, oPopAt, cLen, cInt, cAbs, cSum, cMax2, cMin2, cList, cIsi, tyD, asL, asF, asK, moL_lst, ModC, DivC,
  List.getElem?_cons_zero, List.getElem?_cons_succ, List.set_cons_zero, List.set_cons_succ, List.getElem?_nil, List.length_cons, List.length_nil, List.length_map, Option.map_some, Option.bind_some, Option.isSome_some, if_true, true_and, and_true, MM.push])
local macro_rules | `(tactic| walk_at "lim") => `(tactic| repeat (first | (refine ⟨by decide, ?_⟩) | (refine ⟨by (try simp only [List.length_map, List.length_dropLast, List.length_append, List.length_cons, List.length_nil, List.length_replicate, List.length_take, List.length_drop, List.length_range]); (show _ ≤ 16777216); omega, ?_⟩)))

set_option hygiene false in
local macro_rules | `(tactic| walk_at "stp") => `(tactic| (refine dSeq_k fun k1 h1 => ?_; walk_at "dx"))
set_option hygiene false in
local macro_rules | `(tactic| walk_at "nxt") => `(tactic| (subst h1; (try dsimp only); refine dSeq_k fun k1 h1 => ?_; walk_at "dx"))
set_option hygiene false in
local macro_rules | `(tactic| walk_at "lst") => `(tactic| (subst h1; (try dsimp only); walk_at "dx"))
set_option hygiene false in
local macro_rules | `(tactic| walk_at "nxt2") => `(tactic| (subst h2; (try dsimp only); refine dSeq_k fun k2 h2 => ?_; walk_at "dx"))
set_option hygiene false in
local macro_rules | `(tactic| walk_at "stp2") => `(tactic| (refine dSeq_k fun k2 h2 => ?_; walk_at "dx"))
set_option hygiene false in
local macro_rules | `(tactic| walk_at "lst2") => `(tactic| (subst h2; (try dsimp only); walk_at "dx"))

/-! ### cubes -/
def ptStep (p : Int) (t : List Int) (x : Int) : List Int := t.map (fun e => (1 - x) * e % p) ++ t.map (fun e => x * e % p)
def pointT (pt : List Int) (p : Int) : List Int := pt.foldl (ptStep p) [1 % p]
def C_point_table : DC := fun ds m Φ _ => ∃ (pt : List Int) (p : Int), ds = [.lst (pt.map D.int), .int p] ∧ PM p ∧ pt.length ≤ 16 ∧ Φ (.lst ((pointT pt p).map D.int)) m
def valAt (t pt : List Int) (p : Int) : Int := gi (pt.foldl (foldS p) t) 0 % p
def C_value_at : DC := fun ds m Φ _ => ∃ (t pt : List Int) (p : Int), ds = [.lst (t.map D.int), .lst (pt.map D.int), .int p] ∧ PM p ∧ InP p t ∧ t.length = 2 ^ pt.length ∧ pt.length ≤ 16 ∧ Φ (.int (valAt t pt p)) m
theorem ptStep_len {p x : Int} {t : List Int} : (ptStep p t x).length = 2 * t.length := by
  unfold ptStep
  rw [List.length_append, List.length_map, List.length_map]; omega
theorem ptStep_in {p x : Int} (hp : 2 ≤ p) {t : List Int} : InP p (ptStep p t x) := fun y hy => by
  unfold ptStep at hy
  rcases List.mem_append.mp hy with h | h
  · exact inP_mod hp (fun e => (1 - x) * e) t y h
  · exact inP_mod hp (fun e => x * e) t y h
def W_point_table : DS := dSeq (dSet 2 (dLst (dCons (dOp oMod (dC (.int 1)) (dVar 1)) (dNil)))) (dSeq (dFor (diList (dVar 0)) (dgName 3) (dSeq (dSet 4 (dLc (diList (dVar 2)) (dgName 6) (dYes) (dOp oMod (dOp oMul (dOp oSub (dC (.int 1)) (dVar 3)) (dVar 6)) (dVar 1)) [6])) (dSeq (dSet 5 (dLc (diList (dVar 2)) (dgName 6) (dYes) (dOp oMod (dOp oMul (dVar 3) (dVar 6)) (dVar 1)) [6])) (dSet 2 (dOp oAdd (dVar 4) (dVar 5)))))) (dRet (dVar 2)))
theorem rd_point_table : ∀ ds m Φ Ψ, ds.length = 2 → C_point_table ds m Φ Ψ → W_point_table { nx := fun _ m' => Φ .non m', rt := Φ } (fun _ => Ψ) (ds.map some ++ List.replicate (7 - ds.length) none) m := by
  intro ds m Φ Ψ _ h
  obtain ⟨pt, p, rfl, ⟨hp, hp2⟩, hl, q⟩ := h
  change W_point_table _ _ [some (D.lst (pt.map D.int)), some (.int p), none, none, none, none, none] m
  unfold W_point_table
  walk_at "dl"
  refine ⟨by omega, by decide, ?_⟩
  refine forW_map (inj := D.int) (fun r ρ m' => ∃ (t : List Int) (a b c d : Option D), ρ = [some (D.lst (pt.map D.int)), some (.int p), some (.lst (t.map D.int)), a, b, c, d] ∧ m' = m ∧ InP p t ∧ t.length * 2 ^ r.length ≤ 65536 ∧ r.foldl (ptStep p) t = pointT pt p) ?_ ?_ pt _ _ ⟨[1 % p], none, none, none, none, rfl, rfl, ?_, ?_, rfl⟩
  · rintro x r kk hk ρ m' ⟨t, a, b, c, d, rfl, rfl, ht, hz, hf⟩
    have hlen : t.length ≤ 65536 := by
      have h1 : t.length * 1 ≤ t.length * 2 ^ (x :: r).length := Nat.mul_le_mul_left _ (Nat.one_le_two_pow)
      omega
    walk_at "dl"
    refine lcW_fn (out := D.int) (fun e => (1 - x) * e % p) _ t (fun e he m2 Θ hΘ => ?_) (fun _ => rfl) (by show t.length ≤ 16777216; omega) ?_
    · walk_at "dl"
      exact ⟨mulR (ht e he).1 (by have := (ht e he).2; omega), by omega, hΘ⟩
    walk_at "dl"
    refine lcW_fn (out := D.int) (fun e => x * e % p) _ t (fun e he m2 Θ hΘ => ?_) (fun _ => rfl) (by show t.length ≤ 16777216; omega) ?_
    · walk_at "dl"
      exact ⟨mulR (ht e he).1 (by have := (ht e he).2; omega), by omega, hΘ⟩
    walk_at "dl"
    refine ⟨by show t.length + t.length ≤ 16777216; omega, ?_⟩
    rw [← List.map_append]
    change kk [some (D.lst (List.map D.int pt)), some (.int p), some (D.lst ((ptStep p t x).map D.int)), _, _, _, _] m'
    refine hk _ _ ⟨ptStep p t x, _, _, _, _, rfl, rfl, ptStep_in hp, ?_, hf⟩
    · rw [ptStep_len]
      rw [List.length_cons, Nat.pow_succ] at hz
      rw [Nat.mul_comm 2 t.length, Nat.mul_assoc, Nat.mul_comm 2 (2 ^ r.length)]
      exact hz
  · rintro ρ m' ⟨t, a, b, c, d, rfl, rfl, ht, hz, hf⟩
    walk_at "dl"
    have e : t = pointT pt p := hf
    rw [e]
    exact q
  · intro y hy
    have e : y = 1 % p := by simpa using hy
    rw [e]
    exact ⟨Int.emod_nonneg _ (by omega), Int.emod_lt_of_pos _ (by omega)⟩
  · have h1 : 2 ^ pt.length ≤ 2 ^ 16 := Nat.pow_le_pow_right (by decide) hl
    have h2 : (2 : Nat) ^ 16 = 65536 := by decide
    rw [List.length_singleton]; omega
theorem ptFold_len (p : Int) : ∀ (pt t : List Int), (pt.foldl (ptStep p) t).length = t.length * 2 ^ pt.length
  | [], t => by simp
  | x :: r, t => by
    rw [List.foldl_cons, ptFold_len p r, ptStep_len, List.length_cons, Nat.pow_succ, Nat.mul_comm 2 t.length, Nat.mul_assoc, Nat.mul_comm 2]
theorem pointT_len {pt : List Int} {p : Int} : (pointT pt p).length = 2 ^ pt.length := by
  unfold pointT
  rw [ptFold_len, List.length_singleton, Nat.one_mul]
theorem ptFold_in {p : Int} (hp : 2 ≤ p) : ∀ (pt t : List Int), InP p t → InP p (pt.foldl (ptStep p) t)
  | [], t, h => h
  | x :: r, t, h => ptFold_in hp r _ (ptStep_in hp)
theorem pointT_in {pt : List Int} {p : Int} (hp : 2 ≤ p) : InP p (pointT pt p) := ptFold_in hp _ _ (inP_mod hp (fun _ => 1) [()])
def W_value_at : DS := dSeq (dFor (diList (dVar 1)) (dgName 3) (dSet 0 (dCall 3 C_fold (dCons (dVar 0) (dCons (dVar 3) (dCons (dVar 2) (dNil))))))) (dRet (dOp oMod (dOp oIx (dVar 0) (dC (.int 0))) (dVar 2)))
theorem rd_value_at : ∀ ds m Φ Ψ, ds.length = 3 → C_value_at ds m Φ Ψ → W_value_at { nx := fun _ m' => Φ .non m', rt := Φ } (fun _ => Ψ) (ds.map some ++ List.replicate (4 - ds.length) none) m := by
  intro ds m Φ Ψ _ h
  obtain ⟨t, pt, p, rfl, ⟨hp, hp2⟩, ht, hl, hn, q⟩ := h
  change W_value_at _ _ [some (D.lst (t.map D.int)), some (D.lst (pt.map D.int)), some (.int p), none] m
  unfold W_value_at
  refine dSeq_k fun k1 h1 => ?_
  walk_at "dl"
  refine forW_map (inj := D.int) (fun r ρ m' => ∃ (t' : List Int) (a : Option D), ρ = [some (D.lst (t'.map D.int)), some (D.lst (pt.map D.int)), some (.int p), a] ∧ m' = m ∧ InP p t' ∧ t'.length = 2 ^ r.length ∧ r.length ≤ 16 ∧ r.foldl (foldS p) t' = pt.foldl (foldS p) t) ?_ ?_ pt _ _ ⟨t, none, rfl, rfl, ht, hl, hn, rfl⟩
  · rintro x r kk hk ρ m' ⟨t', a, rfl, rfl, ht', hl', hn', hf⟩
    have h3 : t'.length ≤ 65536 := by
      have h1 : 2 ^ (x :: r).length ≤ 2 ^ 16 := Nat.pow_le_pow_right (by decide) hn'
      have h2 : (2 : Nat) ^ 16 = 65536 := by decide
      omega
    rw [List.length_cons, Nat.pow_succ] at hl'
    walk_at "dl"
    exact ⟨t', x, p, rfl, ⟨hp, hp2⟩, ht', h3, hk _ _ ⟨foldS p t' x, _, rfl, rfl, foldS_in hp, by rw [foldS_len]; omega, by rw [List.length_cons] at hn'; omega, hf⟩⟩
  · rintro ρ m' ⟨t', a, rfl, rfl, ht', hl', hn', hf⟩
    subst h1
    walk_at "dl"
    have e : t' = _ := hf
    refine ⟨_, atI_gi (by decide) (by rw [hl']; decide), ?_⟩
    walk_at "dl"
    refine ⟨by omega, ?_⟩
    rw [e]
    exact q
/-- nearness of two points -/
def nPl : List Int → List Int → Int
  | x :: xs, y :: ys => (x * y + (1 - x) * (1 - y)) * nPl xs ys
  | _, _ => 1
theorem nPl_wt : ∀ xs ys : List Int, xs.length = ys.length → S (2 ^ xs.length) (fun z => wt xs z * wt ys z) = nPl xs ys
  | [], [], _ => rfl
  | [], _ :: _, h => by simp at h
  | _ :: _, [], h => by simp at h
  | x :: xs, y :: ys, h => by
    rw [List.length_cons, Nat.pow_succ, Nat.mul_comm, S_pair]
    show _ = (x * y + (1 - x) * (1 - y)) * nPl xs ys
    rw [← nPl_wt xs ys (by simpa using h), ← S_mul]
    refine S_eq _ fun i _ => ?_
    have e2 : ∀ (a : Int) (r : List Int), wt (a :: r) (2 * i) = (1 - a) * wt r i := fun a r => by
      show (if 2 * i % 2 = 1 then a else 1 - a) * wt r (2 * i / 2) = _
      rw [if_neg (by omega), show 2 * i / 2 = i by omega]
    have e3 : ∀ (a : Int) (r : List Int), wt (a :: r) (2 * i + 1) = a * wt r i := fun a r => by
      show (if (2 * i + 1) % 2 = 1 then a else 1 - a) * wt r ((2 * i + 1) / 2) = _
      rw [if_pos (by omega), show (2 * i + 1) / 2 = i by omega]
    rw [e2, e2, e3, e3]
    grind
end Dl

namespace Dl
open PySem L2
local macro_rules | `(tactic| walk_at "dl") => `(tactic| try simp only [dSeq, dSet, dRaise_one, dRaise_two, dTryAs, dXf, dIsE, List.lookup_cons, List.lookup_nil, beq_self_eq_true, Bool.false_eq_true, if_false, dOp, dUn, dVar, dC, dCB, dCons, dNil, dRet, dRetN, dIf, dB, dAnd, dOr, dNot, dDrop, dNext, dMethL, dSetIx, dAndV, dOrV, dNotV, dBlV, dIfE, dLst, dTup, dLstM, dCall, dChain, dAsg, dgName, dgTup, bindD, asT, dFor, diList, diRng1, diRng2, diEnumerate, diZip, diReversed, dLc, dLcM, dYes, wipeD, dAug, dSl, dSlT, dpN, dpS,
  oI, oI0, oB0, oAdd, oNeg, oEq, oNe, oIx, oIsN, oNotN, isNon, oShl, oApp, oPop, oPopAt, cLen, cInt, cAbs, cSum, cMax2, cMin2, cList, cIsi, tyD, asL, asF, asK, moL_lst, ModC, DivC,
  List.getElem?_cons_zero, List.getElem?_cons_succ, List.set_cons_zero, List.set_cons_succ, List.getElem?_nil, List.length_cons, List.length_nil, List.length_map, Option.map_some, Option.bind_some, Option.isSome_some, if_true, true_and, and_true, MM.push])
local macro_rules | `(tactic| walk_at "dx") => `(tactic| try simp only [eq_self_iff_true, okE_int, okE_bl, okE_non, eqD_int, eqD_bl, kq_NoneType_int, kq_NoneType_bool, kq_NoneType_list, kq_NoneType_tuple, kq_NoneType_str, kq_bool_int, kq_bool_bool, kq_bool_list, kq_bool_tuple, kq_bool_str, kq_int_int, kq_int_bool, kq_int_list, kq_int_tuple, kq_int_str, kq_str_int, kq_str_bool, kq_str_list, kq_str_tuple, kq_str_str, kq_list_int, kq_list_bool, kq_list_list, kq_list_tuple, kq_list_str, kq_tuple_int, kq_tuple_bool, kq_tuple_list, kq_tuple_tuple, kq_tuple_str, oInL, oIsB, oNotB, oEqH, oNeH, oShr, oExt, cMaxL, cMinL, cAny, cAll, cTuple, cListM, dRevL, dFld, dSetF, dAugF, dMeth, dMake, moI_ins, app_len, set_app, List.contains_cons, List.contains_nil, Bool.true_or,  Bool.true_eq_false, decide_true, not_true_eq_false, not_false_eq_true, Bool.not_true, Bool.not_false, decide_eq_true_eq, Bool.not_eq_true', decide_eq_false_iff_not, dSeq, dSet, dRaise_one, dRaise_two, dTryAs, dXf, dIsE, List.lookup_cons, List.lookup_nil, beq_self_eq_true, Bool.false_eq_true, if_false, dOp, dUn, dVar, dC, dCB, dCons, dNil, dRet, dRetN, dIf, dB, dAnd, dOr, dNot, dDrop, dNext, dMethL, dSetIx, dAndV, dOrV, dNotV, dBlV, dIfE, dLst, dTup, dLstM, dCall, dChain, dAsg, dgName, dgTup, bindD, asT, dFor, diList, diRng1, diRng2, diEnumerate, diZip, diReversed, dLc, dLcM, dYes, wipeD, dAug, dSl, dSlT, dpN, dpS,
  oI, oI0, oB0, oAdd, oNeg, oEq, oNe, oIx, oIsN, oNotN, isNon, oShl, oApp, oPop, oPopAt, cLen, cInt, cAbs, cSum, cMax2, cMin2, cList, cIsi, tyD, asL, asF, asK, moL_lst, ModC, DivC,
  List.getElem?_cons_zero, List.getElem?_cons_succ, List.set_cons_zero, List.set_cons_succ, List.getElem?_nil, List.length_cons, List.length_nil, List.length_map, Option.map_some, Option.bind_some, Option.isSome_some, if_true, true_and, and_true, MM.push])
local macro_rules | `(tactic| walk_at "lim") => `(tactic| repeat (first | (refine ⟨by decide, ?_⟩) | (refine ⟨by (try simp only [List.length_map, List.length_dropLast, List.length_append, List.length_cons, List.length_nil, List.length_replicate, List.length_take, List.length_drop, List.length_range]); (show _ ≤ 16777216); omega, ?_⟩)))

set_option hygiene false in
local macro_rules | `(tactic| walk_at "stp") => `(tactic| (refine dSeq_k fun k1 h1 => ?_; walk_at "dx"))
set_option hygiene false in
local macro_rules | `(tactic| walk_at "nxt") => `(tactic| (subst h1; (try dsimp only); refine dSeq_k fun k1 h1 => ?_; walk_at "dx"))
set_option hygiene false in
local macro_rules | `(tactic| walk_at "lst") => `(tactic| (subst h1; (try dsimp only); walk_at "dx"))
set_option hygiene false in
local macro_rules | `(tactic| walk_at "nxt2") => `(tactic| (subst h2; (try dsimp only); refine dSeq_k fun k2 h2 => ?_; walk_at "dx"))
set_option hygiene false in
local macro_rules | `(tactic| walk_at "stp2") => `(tactic| (refine dSeq_k fun k2 h2 => ?_; walk_at "dx"))
set_option hygiene false in
local macro_rules | `(tactic| walk_at "lst2") => `(tactic| (subst h2; (try dsimp only); walk_at "dx"))

/-! ### objects by what their fields hold -/
theorem look_put {f g : String} {v : D} : ∀ {fs : List (String × D)}, (putD f v fs).lookup g = if f = g then some v else fs.lookup g
  | [] => by
    show ([(f, v)] : List (String × D)).lookup g = _
    rw [List.lookup_cons, List.lookup_nil]
    by_cases e : f = g
    · rw [if_pos e, e, beq_self_eq_true]
    · rw [if_neg e, beq_eq_false_iff_ne.mpr (fun z => e z.symm)]
  | (k, x) :: r => by
    unfold putD
    by_cases e : k = f
    · rw [if_pos e, List.lookup_cons]
      by_cases z : f = g
      · rw [if_pos z, e, z, beq_self_eq_true]
      · rw [if_neg z, List.lookup_cons, e, beq_eq_false_iff_ne.mpr (fun w => z w.symm)]
    · rw [if_neg e, List.lookup_cons, List.lookup_cons, look_put]
      by_cases z : g = k
      · subst z
        have z : ¬ f = g := fun w => e w.symm
        simp [z]
      · rw [beq_eq_false_iff_ne.mpr z]
def keysOf (fs : List (String × D)) : List String := fs.map (·.1)
theorem keys_put {f : String} {v : D} : ∀ {fs : List (String × D)}, keysOf (putD f v fs) = if f ∈ keysOf fs then keysOf fs else keysOf fs ++ [f]
  | [] => rfl
  | (k, x) :: r => by
    unfold putD
    by_cases e : k = f
    · rw [if_pos e, if_pos (by rw [e]; exact List.mem_cons_self)]; rfl
    · rw [if_neg e]
      show k :: keysOf (putD f v r) = if f ∈ k :: keysOf r then k :: keysOf r else k :: keysOf r ++ [f]
      rw [keys_put]
      by_cases z : f ∈ keysOf r
      · rw [if_pos z, if_pos (List.mem_cons_of_mem _ z)]
      · rw [if_neg z, if_neg (fun w => by
          rcases List.mem_cons.mp w with w | w
          · exact e w.symm
          · exact z w)]; rfl
theorem nodup_len {α : Type} [DecidableEq α] : ∀ (l A : List α), l.Nodup → (∀ x ∈ l, x ∈ A) → l.length ≤ A.length
  | [], _, _, _ => Nat.zero_le _
  | x :: l, A, h, s => by
    have hx := s x List.mem_cons_self
    have nd := List.nodup_cons.mp h
    have z := nodup_len l (A.erase x) nd.2 (fun y hy => (List.mem_erase_of_ne (fun e => nd.1 (by rw [← e]; exact hy))).mpr (s y (List.mem_cons_of_mem _ hy)))
    rw [List.length_erase_of_mem hx] at z
    have := List.length_pos_of_mem hx
    rw [List.length_cons]; omega
structure KeysOK (A : List String) (fs : List (String × D)) : Prop where
  nd : (keysOf fs).Nodup
  sub : ∀ x ∈ keysOf fs, x ∈ A
  few : A.length ≤ 100
theorem KeysOK.lt {A : List String} {fs : List (String × D)} (h : KeysOK A fs) : fs.length < 1000 := by
  have z := nodup_len _ A h.nd h.sub
  have := h.few
  unfold keysOf at z
  rw [List.length_map] at z
  omega
theorem KeysOK.put {A : List String} {fs : List (String × D)} {f : String} {v : D} (h : KeysOK A fs) (hf : f ∈ A) : KeysOK A (putD f v fs) := by
  refine ⟨?_, fun x hx => ?_, h.few⟩
  · rw [keys_put]
    split
    · exact h.nd
    · rename_i z
      rw [List.nodup_append]
      refine ⟨h.nd, by simp, fun a ha b hb e => z ?_⟩
      rw [List.mem_singleton] at hb
      rw [← hb, ← e]; exact ha
  · rw [keys_put] at hx
    split at hx
    · exact h.sub x hx
    · rcases List.mem_append.mp hx with z | z
      · exact h.sub x z
      · rw [List.mem_singleton.mp z]; exact hf
theorem KeysOK.nil {A : List String} (h : A.length ≤ 100) : KeysOK A [] := ⟨List.nodup_nil, fun _ h => (by cases h), h⟩
/-! ### the honest answerer's steps -/
structure WG where
  a : Int
  b : Int
  c : Int
  x : Int
  y : Int
def wgD (g : WG) : D := .tup [.int g.a, .int g.b, .int g.c, .int g.x, .int g.y]
def wgOK (p : Int) (n : Nat) (g : WG) : Prop := (0 ≤ g.a ∧ g.a < p) ∧ (0 ≤ g.b ∧ g.b < p) ∧ (0 ≤ g.c ∧ g.c < p) ∧ (0 ≤ g.x ∧ g.x < (n : Int)) ∧ (0 ≤ g.y ∧ g.y < (n : Int))
def wgt (p w : Int) : Gate → WG
  | .lin a x b y => ⟨a * w % p, b * w % p, 0, x, y⟩
  | .mul c x y => ⟨0, 0, c * w % p, x, y⟩
def wgts (p : Int) (l : List Gate) (ws : List Int) : List WG := (l.zip ws).map fun gw => wgt p gw.2 gw.1
def C_weighted_gates : DC := fun ds m Φ _ => ∃ (l : List Gate) (ws : List Int) (p cols : Int), ds = [lD l, .lst (ws.map D.int), .int p] ∧ PM p ∧ (∀ g ∈ l, gOK p cols g) ∧ InP p ws ∧ l.length ≤ 1000 ∧ Φ (.lst ((wgts p l ws).map wgD)) m
def W_weighted_gates : DS := dSeq (dSet 3 (dLstM (dNil))) (dSeq (dFor (diZip (dCons (dVar 0) (dCons (dVar 1) (dNil)))) (dgTup [4, 5]) (dIf (dB (dOp oEq (dOp oIx (dVar 4) (dC (.int 0))) (dC (.str (PySem.Str.ofString "lin"))))) (dDrop (dMethL oApp (dVar 3) (dCons (dTup (dCons (dOp oMod (dOp oMul (dOp oIx (dVar 4) (dC (.int 1))) (dVar 5)) (dVar 2)) (dCons (dOp oMod (dOp oMul (dOp oIx (dVar 4) (dC (.int 3))) (dVar 5)) (dVar 2)) (dCons (dC (.int 0)) (dCons (dOp oIx (dVar 4) (dC (.int 2))) (dCons (dOp oIx (dVar 4) (dC (.int 4))) (dNil))))))) (dNil)))) (dDrop (dMethL oApp (dVar 3) (dCons (dTup (dCons (dC (.int 0)) (dCons (dC (.int 0)) (dCons (dOp oMod (dOp oMul (dOp oIx (dVar 4) (dC (.int 1))) (dVar 5)) (dVar 2)) (dCons (dOp oIx (dVar 4) (dC (.int 2))) (dCons (dOp oIx (dVar 4) (dC (.int 3))) (dNil))))))) (dNil)))))) (dRet (dVar 3)))
theorem zip_D {l : List Gate} : ∀ {ws : List Int}, zipD (l.map gD) (ws.map D.int) = (l.zip ws).map fun gw => D.tup [gD gw.1, .int gw.2] := by
  induction l with
  | nil => intro ws; cases ws <;> rfl
  | cons g l ih =>
    intro ws
    cases ws with
    | nil => rfl
    | cons w ws => show _ :: zipD _ _ = _; rw [ih]; rfl
theorem plD_wg (gs : List WG) : plDs (gs.map wgD) = true := plDs_of fun d hd => by
  obtain ⟨g, _, rfl⟩ := List.mem_map.mp hd
  rfl
theorem rd_weighted_gates : ∀ ds m Φ Ψ, ds.length = 3 → C_weighted_gates ds m Φ Ψ → W_weighted_gates { nx := fun _ m' => retQ m Φ .non m', rt := retQ m Φ } (fun _ => retX m Ψ) (ds.map some ++ List.replicate (6 - ds.length) none) m := by
  intro ds m Φ Ψ _ h
  obtain ⟨l, ws, p, cols, rfl, hp, hl, hw, l1000, q⟩ := h
  have hp1 := hp.1
  have hp2 := hp.2
  change W_weighted_gates _ _ [some (.lst (l.map gD)), some (.lst (ws.map D.int)), some (.int p), none, none, none] m
  unfold W_weighted_gates
  walk_at "stp"
  refine ⟨by decide, ?_⟩
  walk_at "nxt"
  rw [zip_D]
  refine forW_map (inj := fun gw : Gate × Int => D.tup [gD gw.1, .int gw.2]) (fun r ρ m' => ∃ (done : List (Gate × Int)) (v4 v5 : Option D), l.zip ws = done ++ r ∧ ρ = [some (.lst (l.map gD)), some (.lst (ws.map D.int)), some (.int p), some (.hnd m.M.length), v4, v5] ∧ m' = ⟨m.M ++ [MO.lst ((done.map fun gw => wgt p gw.2 gw.1).map wgD)], m.s⟩) ?_ ?_ (l.zip ws) _ _ ⟨[], _, _, rfl, rfl, rfl⟩
  · rintro ⟨g, w⟩ r kk hkk ρ m' ⟨done, v4, v5, el, rfl, rfl⟩
    have hm : (g, w) ∈ l.zip ws := by rw [el]; simp
    have hg := hl g (List.of_mem_zip hm).1
    have hwi := hw w (List.of_mem_zip hm).2
    have hdl : done.length < 1000 := by
      have := congrArg List.length el
      rw [List.length_append, List.length_cons, List.length_zip] at this
      omega
    have hdd : done.length < 16777216 := by omega
    have nx : ∀ v4 v5 d, d = wgD (wgt p w g) → kk [some (.lst (l.map gD)), some (.lst (ws.map D.int)), some (.int p), some (.hnd m.M.length), v4, v5] ⟨m.M ++ [MO.lst ((done.map fun gw => wgt p gw.2 gw.1).map wgD ++ [d])], m.s⟩ := fun v4 v5 d e => hkk _ _ ⟨done ++ [(g, w)], _, _, by rw [el, List.append_assoc]; rfl, rfl, by rw [List.map_append, List.map_append, e]; rfl⟩
    cases g with
    | lin a x b y =>
      obtain ⟨ha, hx, hb, hy⟩ := hg
      dsimp only
      rw [show gD (.lin a x b y) = .tup [.str (PySem.Str.ofString "lin"), .int a, .int x, .int b, .int y] from rfl]
      walk_at "dx"
      refine ⟨_, rfl, okE_str sk_lin, okE_str sk_lin, ?_⟩
      rw [eqD_str, if_pos (decide_eq_true rfl)]
      refine ⟨_, rfl, mulR hwi.1 (by omega), ?_⟩
      walk_at "dx"
      refine ⟨by omega, _, rfl, mulR hwi.1 (by omega), ?_⟩
      walk_at "dx"
      refine ⟨by omega, _, rfl, _, rfl, ?_⟩
      walk_at "dx"
      exact ⟨by decide, hdd, nx _ _ _ rfl⟩
    | mul a x y =>
      obtain ⟨ha, hx, hy⟩ := hg
      dsimp only
      rw [show gD (.mul a x y) = .tup [.str (PySem.Str.ofString "mul"), .int a, .int x, .int y] from rfl]
      walk_at "dx"
      refine ⟨_, rfl, okE_str sk_mul, okE_str sk_lin, ?_⟩
      rw [eqD_str, if_neg (by simp [ofString_inj])]
      refine ⟨_, rfl, mulR hwi.1 (by omega), ?_⟩
      walk_at "dx"
      refine ⟨by omega, _, rfl, _, rfl, ?_⟩
      walk_at "dx"
      exact ⟨by decide, hdd, nx _ _ _ rfl⟩
  · rintro ρ m' ⟨done, v4, v5, el, rfl, rfl⟩
    rw [List.append_nil] at el
    walk_at "lst"
    rw [← el]
    exact retQ_lst (clAll_pl _ (plD_wg _)) q
def gsum (p : Int) (gs : List WG) (cols : List Int) : Int := (gs.map fun g => g.a * gi cols g.x + g.b * gi cols g.y + g.c * gi cols g.x % p * gi cols g.y).sum % p
def C_gates_sum : DC := fun ds m Φ _ => ∃ (gs : List WG) (cols : List Int) (p : Int), ds = [.lst (gs.map wgD), .lst (cols.map D.int), .int p] ∧ PM p ∧ (∀ g ∈ gs, wgOK p cols.length g) ∧ InP p cols ∧ Φ (.int (gsum p gs cols)) m
def W_gates_sum : DS := dSeq (dSet 3 (dC (.int 0))) (dSeq (dFor (diList (dVar 0)) (dgTup [4, 5, 6, 7, 8]) (dAug 3 (oI0 fun i j => i + j) (dOp oAdd (dOp oAdd (dOp oMul (dVar 4) (dOp oIx (dVar 1) (dVar 7))) (dOp oMul (dVar 5) (dOp oIx (dVar 1) (dVar 8)))) (dOp oMul (dOp oMod (dOp oMul (dVar 6) (dOp oIx (dVar 1) (dVar 7))) (dVar 2)) (dOp oIx (dVar 1) (dVar 8)))))) (dRet (dOp oMod (dVar 3) (dVar 2))))
theorem rd_gates_sum : ∀ ds m Φ Ψ, ds.length = 3 → C_gates_sum ds m Φ Ψ → W_gates_sum { nx := fun _ m' => Φ .non m', rt := Φ } (fun _ => Ψ) (ds.map some ++ List.replicate (9 - ds.length) none) m := by
  intro ds m Φ Ψ _ h
  obtain ⟨gs, cols, p, rfl, hp, hg, hc, q⟩ := h
  have hp1 := hp.1
  have hp2 := hp.2
  change W_gates_sum _ _ [some (.lst (gs.map wgD)), some (.lst (cols.map D.int)), some (.int p), none, none, none, none, none, none] m
  unfold W_gates_sum
  walk_at "stp"
  walk_at "nxt"
  refine forW_map (inj := wgD) (fun r ρ m' => ∃ (z : Int) (v4 v5 v6 v7 v8 : Option D), (∀ g ∈ r, g ∈ gs) ∧ z + (r.map fun g => g.a * gi cols g.x + g.b * gi cols g.y + g.c * gi cols g.x % p * gi cols g.y).sum = (gs.map fun g => g.a * gi cols g.x + g.b * gi cols g.y + g.c * gi cols g.x % p * gi cols g.y).sum ∧
    ρ = [some (.lst (gs.map wgD)), some (.lst (cols.map D.int)), some (.int p), some (.int z), v4, v5, v6, v7, v8] ∧ m' = m) ?_ ?_ gs _ _ ⟨0, _, _, _, _, _, fun _ h => h, by omega, rfl, rfl⟩
  · rintro g r kk hkk ρ m' ⟨z, v4, v5, v6, v7, v8, hr, ez, rfl, rfl⟩
    obtain ⟨⟨a0, a1⟩, ⟨b0, b1⟩, ⟨c0, c1⟩, ⟨x0, x1⟩, ⟨y0, y1⟩⟩ := hg g (hr g List.mem_cons_self)
    have vx := gi_in hc x0 x1
    have vy := gi_in hc y0 y1
    rw [show wgD g = .tup [.int g.a, .int g.b, .int g.c, .int g.x, .int g.y] from rfl]
    walk_at "dx"
    refine ⟨_, atI_gi x0 x1, mulL a0 (by omega), _, atI_gi y0 y1, mulL b0 (by omega), ?_⟩
    walk_at "dx"
    refine ⟨_, atI_gi x0 x1, mulL c0 (by omega), ?_⟩
    walk_at "dx"
    refine ⟨by omega, _, atI_gi y0 y1, mulR vy.1 (by omega), ?_⟩
    walk_at "dx"
    refine hkk _ _ ⟨_, _, _, _, _, _, fun g h => hr g (List.mem_cons_of_mem _ h), ?_, rfl, rfl⟩
    rw [List.map_cons, List.sum_cons] at ez
    omega
  · rintro ρ m' ⟨z, v4, v5, v6, v7, v8, hr, ez, rfl, rfl⟩
    walk_at "lst"
    have ez : z = (gs.map fun g => g.a * gi cols g.x + g.b * gi cols g.y + g.c * gi cols g.x % p * gi cols g.y).sum := by simpa using ez
    rw [ez]
    exact ⟨by omega, q⟩
def atN (t : List Int) (k : Nat) (z : Int) : Int := gi t (2 * (k : Nat)) + z * (gi t (2 * (k : Nat) + 1) - gi t (2 * (k : Nat)))
def C_at_number : DC := fun ds m Φ _ => ∃ (t : List Int) (k : Nat) (z : Int), ds = [.lst (t.map D.int), .int (k : Nat), .int z] ∧ 2 * k + 1 < t.length ∧ 0 ≤ z ∧ z ≤ 2147483647 ∧ Φ (.int (atN t k z)) m
def W_at_number : DS := dRet (dOp oAdd (dOp oIx (dVar 0) (dOp oMul (dC (.int 2)) (dVar 1))) (dOp oMul (dVar 2) (dOp oSub (dOp oIx (dVar 0) (dOp oAdd (dOp oMul (dC (.int 2)) (dVar 1)) (dC (.int 1)))) (dOp oIx (dVar 0) (dOp oMul (dC (.int 2)) (dVar 1))))))
theorem rd_at_number : ∀ ds m Φ Ψ, ds.length = 3 → C_at_number ds m Φ Ψ → W_at_number { nx := fun _ m' => Φ .non m', rt := Φ } (fun _ => Ψ) (ds.map some ++ List.replicate (3 - ds.length) none) m := by
  intro ds m Φ Ψ _ h
  obtain ⟨t, k, z, rfl, hk, z0, z1, q⟩ := h
  change W_at_number _ _ [some (.lst (t.map D.int)), some (.int (k : Nat)), some (.int z)] m
  unfold W_at_number
  walk_at "dx"
  refine ⟨mulL (by decide) (by decide), _, atI_gi (by omega) (by omega), mulL (by decide) (by decide), _, atI_gi (by omega) (by omega), mulL (by decide) (by decide), _, atI_gi (by omega) (by omega), ?_⟩
  walk_at "dx"
  exact ⟨mulL z0 (by omega), q⟩
end Dl

namespace Dl
open PySem L2
local macro_rules | `(tactic| walk_at "dl") => `(tactic| try simp only [dSeq, dSet, dRaise_one, dRaise_two, dTryAs, dXf, dIsE, List.lookup_cons, List.lookup_nil, beq_self_eq_true, Bool.false_eq_true, if_false, dOp, dUn, dVar, dC, dCB, dCons, dNil, dRet, dRetN, dIf, dB, dAnd, dOr, dNot, dDrop, dNext, dMethL, dSetIx, dAndV, dOrV, dNotV, dBlV, dIfE, dLst, dTup, dLstM, dCall, dChain, dAsg, dgName, dgTup, bindD, asT, dFor, diList, diRng1, diRng2, diEnumerate, diZip, diReversed, dLc, dLcM, dYes, wipeD, dAug, dSl, dSlT, dpN, dpS,
  oI, oI0, oB0, oAdd, oNeg, oEq, oNe, oIx, oIsN, oNotN, isNon, oShl, oApp, oPop, oPopAt, cLen, cInt, cAbs, cSum, cMax2, cMin2, cList, cIsi, tyD, asL, asF, asK, moL_lst, ModC, DivC,
  List.getElem?_cons_zero, List.getElem?_cons_succ, List.set_cons_zero, List.set_cons_succ, List.getElem?_nil, List.length_cons, List.length_nil, List.length_map, Option.map_some, Option.bind_some, Option.isSome_some, if_true, true_and, and_true, MM.push])
local macro_rules | `(tactic| walk_at "dx") => `(tactic| try simp only [eq_self_iff_true, okE_int, okE_bl, okE_non, eqD_int, eqD_bl, kq_NoneType_int, kq_NoneType_bool, kq_NoneType_list, kq_NoneType_tuple, kq_NoneType_str, kq_bool_int, kq_bool_bool, kq_bool_list, kq_bool_tuple, kq_bool_str, kq_int_int, kq_int_bool, kq_int_list, kq_int_tuple, kq_int_str, kq_str_int, kq_str_bool, kq_str_list, kq_str_tuple, kq_str_str, kq_list_int, kq_list_bool, kq_list_list, kq_list_tuple, kq_list_str, kq_tuple_int, kq_tuple_bool, kq_tuple_list, kq_tuple_tuple, kq_tuple_str, oInL, oIsB, oNotB, oEqH, oNeH, oShr, oExt, cMaxL, cMinL, cAny, cAll, cTuple, cListM, dRevL, dFld, dSetF, dAugF, dMeth, dMake, moI_ins, app_len, set_app, List.contains_cons, List.contains_nil, Bool.true_or,  Bool.true_eq_false, decide_true, not_true_eq_false, not_false_eq_true, Bool.not_true, Bool.not_false, decide_eq_true_eq, Bool.not_eq_true', decide_eq_false_iff_not, dSeq, dSet, dRaise_one, dRaise_two, dTryAs, dXf, dIsE, List.lookup_cons, List.lookup_nil, beq_self_eq_true, Bool.false_eq_true, if_false, dOp, dUn, dVar, dC, dCB, dCons, dNil, dRet, dRetN, dIf, dB, dAnd, dOr, dNot, dDrop, dNext, dMethL, dSetIx, dAndV, dOrV, dNotV, dBlV, dIfE, dLst, dTup, dLstM, dCall, dChain, dAsg, dgName, dgTup, bindD, asT, dFor, diList, diRng1, diRng2, diEnumerate, diZip, diReversed, dLc, dLcM, dYes, wipeD, dAug, dSl, dSlT, dpN, dpS,
  oI, oI0, oB0, oAdd, oNeg, oEq, oNe, oIx, oIsN, oNotN, isNon, oShl, oApp, oPop, oPopAt, cLen, cInt, cAbs, cSum, cMax2, cMin2, cList, cIsi, tyD, asL, asF, asK, moL_lst, ModC, DivC,
  List.getElem?_cons_zero, List.getElem?_cons_succ, List.set_cons_zero, List.set_cons_succ, List.getElem?_nil, List.length_cons, List.length_nil, List.length_map, Option.map_some, Option.bind_some, Option.isSome_some, if_true, true_and, and_true, MM.push])
local macro_rules | `(tactic| walk_at "lim") => `(tactic| repeat (first | (refine ⟨by decide, ?_⟩) | (refine ⟨by (try simp only [List.length_map, List.length_dropLast, List.length_append, List.length_cons, List.length_nil, List.length_replicate, List.length_take, List.length_drop, List.length_range]); (show _ ≤ 16777216); omega, ?_⟩)))

set_option hygiene false in
local macro_rules | `(tactic| walk_at "stp") => `(tactic| (refine dSeq_k fun k1 h1 => ?_; walk_at "dx"))
set_option hygiene false in
local macro_rules | `(tactic| walk_at "nxt") => `(tactic| (subst h1; (try dsimp only); refine dSeq_k fun k1 h1 => ?_; walk_at "dx"))
set_option hygiene false in
local macro_rules | `(tactic| walk_at "lst") => `(tactic| (subst h1; (try dsimp only); walk_at "dx"))
set_option hygiene false in
local macro_rules | `(tactic| walk_at "nxt2") => `(tactic| (subst h2; (try dsimp only); refine dSeq_k fun k2 h2 => ?_; walk_at "dx"))
set_option hygiene false in
local macro_rules | `(tactic| walk_at "stp2") => `(tactic| (refine dSeq_k fun k2 h2 => ?_; walk_at "dx"))
set_option hygiene false in
local macro_rules | `(tactic| walk_at "lst2") => `(tactic| (subst h2; (try dsimp only); walk_at "dx"))

/-! ### the honest answerer -/
structure AS where
  c : Cir
  T : List (List Int)
  b : Nat
  steps : Int
  layer : Nat
  round : Nat
  wide : Nat
  gates : List WG
  near : List Int
  cols : List (List Int)
  first : List Int
  second : List Int
  share : Int
  below : List Int
  fac : List Int
  rest : List Int
  left : List Int
def ansKeys : List String := ["circuit", "tables", "bits", "p", "steps", "layer", "round", "wide", "gates", "near", "columns", "first", "second", "share", "below", "factors", "rest", "left"]
class Fl_Answerer (fl : String → List String) : Prop where
  circuit : (fl "circuit").contains "Answerer" = true
  tables : (fl "tables").contains "Answerer" = true
  bits : (fl "bits").contains "Answerer" = true
  p : (fl "p").contains "Answerer" = true
  steps : (fl "steps").contains "Answerer" = true
  layer : (fl "layer").contains "Answerer" = true
  round : (fl "round").contains "Answerer" = true
  wide : (fl "wide").contains "Answerer" = true
  gates : (fl "gates").contains "Answerer" = true
  near : (fl "near").contains "Answerer" = true
  columns : (fl "columns").contains "Answerer" = true
  first : (fl "first").contains "Answerer" = true
  second : (fl "second").contains "Answerer" = true
  share : (fl "share").contains "Answerer" = true
  below : (fl "below").contains "Answerer" = true
  factors : (fl "factors").contains "Answerer" = true
  rest : (fl "rest").contains "Answerer" = true
  left : (fl "left").contains "Answerer" = true
/-- a method of this name is no field -/
def PlF (fs : List (String × D)) : Prop := ∀ x ∈ fs, plD x.2 = true
theorem PlF.put {f : String} {v : D} (hv : plD v = true) : ∀ {fs : List (String × D)}, PlF fs → PlF (putD f v fs)
  | [], _ => fun x hx => by rw [List.mem_singleton.mp hx]; exact hv
  | (k, y) :: r, h => fun x hx => by
    unfold putD at hx
    by_cases e : k = f
    · rw [if_pos e] at hx
      rcases List.mem_cons.mp hx with z | z
      · rw [z]; exact hv
      · exact h x (List.mem_cons_of_mem _ z)
    · rw [if_neg e] at hx
      rcases List.mem_cons.mp hx with z | z
      · rw [z]; exact h (k, y) List.mem_cons_self
      · exact PlF.put hv (fun w hw => h w (List.mem_cons_of_mem _ hw)) x z
theorem PlF.cl {n : Nat} : ∀ {fs : List (String × D)}, PlF fs → clF n fs = true
  | [], _ => rfl
  | (k, y) :: r, h => by
    show (clD n y && clF n r) = true
    rw [clD_pl y (h (k, y) List.mem_cons_self), PlF.cl fun w hw => h w (List.mem_cons_of_mem _ hw)]; rfl
structure A0 (fs : List (String × D)) (s : AS) : Prop where
  k : KeysOK ansKeys fs
  pl : PlF fs
  circuit : fs.lookup "circuit" = some (cD s.c)
  tables : fs.lookup "tables" = some (tabL s.T)
  bits : fs.lookup "bits" = some (.int (s.b : Nat))
  p : fs.lookup "p" = some (.int s.c.p)
  steps : fs.lookup "steps" = some (.int s.steps)
structure A1 (fs : List (String × D)) (s : AS) : Prop extends A0 fs s where
  layer : fs.lookup "layer" = some (.int (s.layer : Nat))
  round : fs.lookup "round" = some (.int (s.round : Nat))
  wide : fs.lookup "wide" = some (.int (s.wide : Nat))
  gates : fs.lookup "gates" = some (.lst (s.gates.map wgD))
  near : fs.lookup "near" = some (.lst (s.near.map D.int))
  columns : fs.lookup "columns" = some (tabL s.cols)
  first : fs.lookup "first" = some (.lst (s.first.map D.int))
  second : fs.lookup "second" = some (.lst (s.second.map D.int))
structure A2 (fs : List (String × D)) (s : AS) : Prop extends A1 fs s where
  share : fs.lookup "share" = some (.int s.share)
  below : fs.lookup "below" = some (.lst (s.below.map D.int))
  factors : fs.lookup "factors" = some (.lst (s.fac.map D.int))
  rest : fs.lookup "rest" = some (.lst (s.rest.map D.int))
  left : fs.lookup "left" = some (.lst (s.left.map D.int))
theorem notkey {fs : List (String × D)} {A : List String} {f : String} (h : KeysOK A fs) (hf : f ∉ A) : fs.lookup f = none := by
  cases e : fs.lookup f with
  | none => rfl
  | some v =>
    refine absurd (h.sub f ?_) hf
    have := List.lookup_eq_some_iff.mp e
    obtain ⟨l1, l2, e, _⟩ := this
    unfold keysOf
    rw [e]; simp
def ft1 (p : Int) (below : List Int) (gs : List WG) (f : List Int) : List Int := gs.foldl (fun f g => f.set g.x.toNat ((gi f g.x + g.a + g.c * gi below g.y) % p)) f
def rs1 (p : Int) (below : List Int) (gs : List WG) (f : List Int) : List Int := gs.foldl (fun f g => f.set g.x.toNat ((gi f g.x + g.b * gi below g.y) % p)) f
def ft2 (p : Int) (w : List Int) (v : Int) (gs : List WG) (f : List Int) : List Int := gs.foldl (fun f g => f.set g.y.toNat ((gi f g.y + gi w g.x * (g.b + g.c * v)) % p)) f
def rs2 (p : Int) (w : List Int) (v : Int) (gs : List WG) (f : List Int) : List Int := gs.foldl (fun f g => f.set g.y.toNat ((gi f g.y + gi w g.x * g.a % p * v) % p)) f
def zer (n : Nat) : List Int := List.replicate n 0
def turn1 (s : AS) : AS := if s.round = s.b then { s with share := gi s.near 0, below := s.cols.map fun c => gi c 0, fac := ft1 s.c.p (s.cols.map fun c => gi c 0) s.gates (zer s.cols.length), rest := rs1 s.c.p (s.cols.map fun c => gi c 0) s.gates (zer s.cols.length), left := s.cols.map fun c => gi c 0, steps := s.steps + (s.gates.length : Nat) } else s
def turn2 (s : AS) : AS := if s.round = s.b + s.wide then { s with fac := ft2 s.c.p (pointT s.first s.c.p) (gi s.left 0) s.gates (zer s.below.length), rest := rs2 s.c.p (pointT s.first s.c.p) (gi s.left 0) s.gates (zer s.below.length), left := s.below, steps := s.steps + (s.gates.length : Nat) } else s
def turnF (s : AS) : AS := turn2 (turn1 s)
def beginF (s : AS) (layer : Nat) (g : List Int) : AS := turnF { s with layer := layer, round := 0, wide := (gi s.c.ws ((layer + 1 : Nat) : Int)).toNat, gates := wgts s.c.p (s.c.ls.getD layer []) (pointT (g.drop s.b) s.c.p), near := pointT (g.take s.b) s.c.p, cols := (List.range (colsN s.c (layer + 1))).map (fun k => ((s.T.getD (layer + 1) []).drop (2 ^ s.b * k)).take (2 ^ s.b)), first := [], second := [] }
def midF (s : AS) (z : Int) : AS := if s.round < s.b then { s with near := foldS s.c.p s.near z, cols := s.cols.map fun c => foldS s.c.p c z }
  else if s.round < s.b + 2 * s.wide then { s with fac := foldS s.c.p s.fac z, rest := foldS s.c.p s.rest z, left := foldS s.c.p s.left z, first := if s.round < s.b + s.wide then s.first ++ [z] else s.first, second := if s.round < s.b + s.wide then s.second else s.second ++ [z] } else s
def throwF (s : AS) (z : Int) : AS := turnF { midF s z with round := s.round + 1 }
def rowV (s : AS) (t : Int) : Int := (S (s.near.length / 2) fun k => atN s.near k t % s.c.p * gsum s.c.p s.gates (s.cols.map fun c => atN c k t % s.c.p)) % s.c.p
def colV (s : AS) (t : Int) : Int := (S (s.left.length / 2) fun k => atN s.fac k t * atN s.left k t + atN s.rest k t) * s.share % s.c.p
def rowSt (s : AS) : Int := ((s.near.length / 2 : Nat) : Int) * ((s.gates.length : Nat) + (s.cols.length : Nat))
def colSt (s : AS) : Int := ((s.left.length / 2 : Nat) : Int)
def polyF (s : AS) : List Int := if s.round < s.b then (List.range 4).map fun t : Nat => rowV s (t : Nat) else (List.range 3).map fun t : Nat => colV s (t : Nat)
def polyS (s : AS) : AS := { s with steps := s.steps + if s.round < s.b then 4 * rowSt s else 3 * colSt s }
/-- a state that the methods can take -/
structure V1 (s : AS) : Prop where
  pm : PM s.c.p
  b3 : s.b ≤ 10
  w3 : s.wide ≤ 10
  g : ∀ g ∈ s.gates, wgOK s.c.p (2 ^ s.wide) g
  gl : s.gates.length ≤ 100000
  near : InP s.c.p s.near
  nl : s.near.length = 2 ^ (s.b - s.round)
  cl : s.cols.length = 2 ^ s.wide
  col : ∀ c ∈ s.cols, InP s.c.p c ∧ c.length = 2 ^ (s.b - s.round)
  f : InP s.c.p s.first
  fl : s.first.length = min (s.round - s.b) s.wide
  sn : InP s.c.p s.second
  sl : s.second.length = min (s.round - s.b - s.wide) s.wide
def leftP (s : AS) : Nat := if s.round ≤ s.b + s.wide then 2 ^ (s.wide - (s.round - s.b)) else 2 ^ (s.wide - (s.round - s.b - s.wide))
def leftL (s : AS) : Nat := if s.round < s.b + s.wide then 2 ^ (s.wide - (s.round - s.b)) else 2 ^ (s.wide - (s.round - s.b - s.wide))
structure V2 (s : AS) (L : Nat) : Prop where
  share : 0 ≤ s.share ∧ s.share < s.c.p
  below : InP s.c.p s.below
  bl : s.below.length = 2 ^ s.wide
  fac : InP s.c.p s.fac
  facl : s.fac.length = L
  rest : InP s.c.p s.rest
  restl : s.rest.length = L
  left : InP s.c.p s.left
  leftl : s.left.length = L
end Dl

namespace Dl
open PySem L2
local macro_rules | `(tactic| walk_at "dl") => `(tactic| try simp only [dSeq, dSet, dRaise_one, dRaise_two, dTryAs, dXf, dIsE, List.lookup_cons, List.lookup_nil, beq_self_eq_true, Bool.false_eq_true, if_false, dOp, dUn, dVar, dC, dCB, dCons, dNil, dRet, dRetN, dIf, dB, dAnd, dOr, dNot, dDrop, dNext, dMethL, dSetIx, dAndV, dOrV, dNotV, dBlV, dIfE, dLst, dTup, dLstM, dCall, dChain, dAsg, dgName, dgTup, bindD, asT, dFor, diList, diRng1, diRng2, diEnumerate, diZip, diReversed, dLc, dLcM, dYes, wipeD, dAug, dSl, dSlT, dpN, dpS,
  oI, oI0, oB0, oAdd, oNeg, oEq, oNe, oIx, oIsN, oNotN, isNon, oShl, oApp, oPop, oPopAt, cLen, cInt, cAbs, cSum, cMax2, cMin2, cList, cIsi, tyD, asL, asF, asK, moL_lst, ModC, DivC,
  List.getElem?_cons_zero, List.getElem?_cons_succ, List.set_cons_zero, List.set_cons_succ, List.getElem?_nil, List.length_cons, List.length_nil, List.length_map, Option.map_some, Option.bind_some, Option.isSome_some, if_true, true_and, and_true, MM.push])
local macro_rules | `(tactic| walk_at "dx") => `(tactic| try simp only [eq_self_iff_true, okE_int, okE_bl, okE_non, eqD_int, eqD_bl, kq_NoneType_int, kq_NoneType_bool, kq_NoneType_list, kq_NoneType_tuple, kq_NoneType_str, kq_bool_int, kq_bool_bool, kq_bool_list, kq_bool_tuple, kq_bool_str, kq_int_int, kq_int_bool, kq_int_list, kq_int_tuple, kq_int_str, kq_str_int, kq_str_bool, kq_str_list, kq_str_tuple, kq_str_str, kq_list_int, kq_list_bool, kq_list_list, kq_list_tuple, kq_list_str, kq_tuple_int, kq_tuple_bool, kq_tuple_list, kq_tuple_tuple, kq_tuple_str, oInL, oIsB, oNotB, oEqH, oNeH, oShr, oExt, cMaxL, cMinL, cAny, cAll, cTuple, cListM, dRevL, dFld, dSetF, dAugF, dMeth, dMake, moI_ins, app_len, set_app, List.contains_cons, List.contains_nil, Bool.true_or,  Bool.true_eq_false, decide_true, not_true_eq_false, not_false_eq_true, Bool.not_true, Bool.not_false, decide_eq_true_eq, Bool.not_eq_true', decide_eq_false_iff_not, dSeq, dSet, dRaise_one, dRaise_two, dTryAs, dXf, dIsE, List.lookup_cons, List.lookup_nil, beq_self_eq_true, Bool.false_eq_true, if_false, dOp, dUn, dVar, dC, dCB, dCons, dNil, dRet, dRetN, dIf, dB, dAnd, dOr, dNot, dDrop, dNext, dMethL, dSetIx, dAndV, dOrV, dNotV, dBlV, dIfE, dLst, dTup, dLstM, dCall, dChain, dAsg, dgName, dgTup, bindD, asT, dFor, diList, diRng1, diRng2, diEnumerate, diZip, diReversed, dLc, dLcM, dYes, wipeD, dAug, dSl, dSlT, dpN, dpS,
  oI, oI0, oB0, oAdd, oNeg, oEq, oNe, oIx, oIsN, oNotN, isNon, oShl, oApp, oPop, oPopAt, cLen, cInt, cAbs, cSum, cMax2, cMin2, cList, cIsi, tyD, asL, asF, asK, moL_lst, ModC, DivC,
  List.getElem?_cons_zero, List.getElem?_cons_succ, List.set_cons_zero, List.set_cons_succ, List.getElem?_nil, List.length_cons, List.length_nil, List.length_map, Option.map_some, Option.bind_some, Option.isSome_some, if_true, true_and, and_true, MM.push])
local macro_rules | `(tactic| walk_at "lim") => `(tactic| repeat (first | (refine ⟨by decide, ?_⟩) | (refine ⟨by (try simp only [List.length_map, List.length_dropLast, List.length_append, List.length_cons, List.length_nil, List.length_replicate, List.length_take, List.length_drop, List.length_range]); (show _ ≤ 16777216); omega, ?_⟩)))

set_option hygiene false in
local macro_rules | `(tactic| walk_at "stp") => `(tactic| (refine dSeq_k fun k1 h1 => ?_; walk_at "dx"))
set_option hygiene false in
local macro_rules | `(tactic| walk_at "nxt") => `(tactic| (subst h1; (try dsimp only); refine dSeq_k fun k1 h1 => ?_; walk_at "dx"))
set_option hygiene false in
local macro_rules | `(tactic| walk_at "lst") => `(tactic| (subst h1; (try dsimp only); walk_at "dx"))
set_option hygiene false in
local macro_rules | `(tactic| walk_at "nxt2") => `(tactic| (subst h2; (try dsimp only); refine dSeq_k fun k2 h2 => ?_; walk_at "dx"))
set_option hygiene false in
local macro_rules | `(tactic| walk_at "stp2") => `(tactic| (refine dSeq_k fun k2 h2 => ?_; walk_at "dx"))
set_option hygiene false in
local macro_rules | `(tactic| walk_at "lst2") => `(tactic| (subst h2; (try dsimp only); walk_at "dx"))
set_option hygiene false in
local macro_rules | `(tactic| walk_at "an") => `(tactic| (walk_at "dx"; (try simp only [dgTupG, dgsCons, dgsNil, dgFld, asT, dVar, List.length_cons, List.length_nil, List.getElem?_cons_zero, ob, obL, hk, moI_ins, Fl_Answerer.circuit, Fl_Answerer.tables, Fl_Answerer.bits, Fl_Answerer.p, Fl_Answerer.steps, Fl_Answerer.layer, Fl_Answerer.round, Fl_Answerer.wide, Fl_Answerer.gates, Fl_Answerer.near, Fl_Answerer.columns, Fl_Answerer.first, Fl_Answerer.second, Fl_Answerer.share, Fl_Answerer.below, Fl_Answerer.factors, Fl_Answerer.rest, Fl_Answerer.left,
  List.getElem?_set_self, List.set_set, List.length_set, look_put, String.reduceEq, reduceIte, exists_eq_left', Option.some.injEq, true_and, and_true])))

theorem obApp {M : List MO} {k : Nat} {o : MO} (h : M[k]? = some o) : ∀ L, (M ++ L)[k]? = some o := fun L => by
  have hk : k < M.length := by
    rcases Nat.lt_or_ge k M.length with z | z
    · exact z
    · rw [List.getElem?_eq_none z] at h; cases h
  rw [List.getElem?_append_left hk]; exact h
theorem getLt {M : List MO} {k : Nat} {o : MO} (h : M[k]? = some o) : k < M.length := by
  rcases Nat.lt_or_ge k M.length with z | z
  · exact z
  · rw [List.getElem?_eq_none z] at h; cases h
theorem ap1 {M : List MO} {a b : MO} : (M ++ [a, b])[M.length]? = some a := app_len2
theorem ap2 {M : List MO} {a b : MO} : (M ++ [a, b])[M.length + 1]? = some b := by rw [List.getElem?_append_right (by omega)]; simp
theorem st1 {M : List MO} {a b c : MO} : (M ++ [a, b]).set M.length c = M ++ [c, b] := set_app2
theorem st2 {M : List MO} {a b c : MO} : (M ++ [a, b]).set (M.length + 1) c = M ++ [a, c] := by rw [List.set_append_right _ _ (by omega)]; simp
theorem app2 {M : List MO} {a b : MO} : M ++ [a] ++ [b] = M ++ [a, b] := by rw [List.append_assoc]; rfl
theorem plD_two (a b : List Int) : plD (.tup [.lst (a.map D.int), .lst (b.map D.int)]) = true := by
  show plDs _ = true
  exact plDs_of fun d hd => by
    rcases List.mem_cons.mp hd with e | e
    · rw [e]; exact plD_ints a
    · rw [List.mem_singleton.mp e]; exact plD_ints b
theorem rep0 (n : Nat) : (List.replicate n [D.int 0]).flatten = (zer n).map D.int := rep_flat n
theorem setM {xs : List Int} {n : Nat} {v : Int} : (xs.map D.int).set n (.int v) = (xs.set n v).map D.int := by rw [List.map_set]
def C_Answerer_first_tables : DC := fun ds m Φ _ => ∃ (k : Nat) (fs : List (String × D)) (p st : Int) (gs : List WG) (below : List Int), ds = [.hnd k] ∧ m.M[k]? = some (.ins "Answerer" fs) ∧ KeysOK ansKeys fs ∧ PlF fs ∧ fs.lookup "p" = some (.int p) ∧ fs.lookup "steps" = some (.int st) ∧
  fs.lookup "gates" = some (.lst (gs.map wgD)) ∧ fs.lookup "below" = some (.lst (below.map D.int)) ∧ PM p ∧ (∀ g ∈ gs, wgOK p below.length g) ∧ InP p below ∧ below.length ≤ 100000 ∧
  Φ (.tup [.lst ((ft1 p below gs (zer below.length)).map D.int), .lst ((rs1 p below gs (zer below.length)).map D.int)]) ⟨m.M.set k (.ins "Answerer" (putD "steps" (.int (st + (gs.length : Nat))) fs)), m.s⟩
def W_Answerer_first_tables (fl : String → List String) : DS := dSeq (dSet 1 (dFld (fl "p") "p" (dVar 0))) (dSeq (dSet 2 (dOp oRepM (dLst (dCons (dC (.int 0)) (dNil))) (dCB cLen (dCons (dFld (fl "below") "below" (dVar 0)) (dNil))))) (dSeq (dSet 3 (dOp oRepM (dLst (dCons (dC (.int 0)) (dNil))) (dCB cLen (dCons (dFld (fl "below") "below" (dVar 0)) (dNil))))) (dSeq (dFor (diList (dFld (fl "gates") "gates" (dVar 0))) (dgTup [4, 5, 6, 7, 8]) (dSeq (dSetIx (dOp oMod (dOp oAdd (dOp oAdd (dOp oIx (dVar 2) (dVar 7)) (dVar 4)) (dOp oMul (dVar 6) (dOp oIx (dFld (fl "below") "below" (dVar 0)) (dVar 8)))) (dVar 1)) (dVar 2) (dVar 7)) (dSetIx (dOp oMod (dOp oAdd (dOp oIx (dVar 3) (dVar 7)) (dOp oMul (dVar 5) (dOp oIx (dFld (fl "below") "below" (dVar 0)) (dVar 8)))) (dVar 1)) (dVar 3) (dVar 7)))) (dSeq (dAugF (fl "steps") "steps" (fun i j => i + j) (dCB cLen (dCons (dFld (fl "gates") "gates" (dVar 0)) (dNil))) (dVar 0)) (dFrz 3 (dFrz 2 (dRet (dTup (dCons (dVar 2) (dCons (dVar 3) (dNil)))))))))))
theorem rd_Answerer_first_tables {fl : String → List String} (F : Fl_Answerer fl) : ∀ ds m Φ Ψ, ds.length = 1 → C_Answerer_first_tables ds m Φ Ψ → W_Answerer_first_tables fl { nx := fun _ m' => retQ m Φ .non m', rt := retQ m Φ } (fun _ => retX m Ψ) (ds.map some ++ List.replicate (9 - ds.length) none) m := by
  intro ds m Φ Ψ _ h
  obtain ⟨k, fs, p, st, gs, below, rfl, ob, K, Pl, lp, ls, lg, lb, hp, hg, hb, b1000, q⟩ := h
  have hp1 := hp.1
  have hp2 := hp.2
  have hk := getLt ob
  have obL := obApp ob
  change W_Answerer_first_tables fl _ _ [some (.hnd k), none, none, none, none, none, none, none, none] m
  unfold W_Answerer_first_tables
  walk_at "stp"
  walk_at "an"
  simp only [lp, Option.some.injEq, exists_eq_left']
  walk_at "nxt"
  walk_at "an"
  refine ⟨by decide, _, lb, ?_⟩
  walk_at "dx"
  unfold oRepM
  dsimp only
  have rl : ∀ n : Nat, n ≤ 100000 → [D.int 0].length * ((n : Nat) : Int).toNat ≤ LIM := fun n hn => by rw [Int.toNat_natCast, List.length_singleton]; show _ ≤ 16777216; omega
  refine ⟨rl _ b1000, by omega, by omega, ?_⟩
  rw [Int.toNat_natCast, rep0]
  walk_at "nxt"
  walk_at "an"
  refine ⟨by decide, _, lb, ?_⟩
  walk_at "dx"
  refine ⟨rl _ b1000, by omega, by omega, ?_⟩
  rw [Int.toNat_natCast, rep0]
  walk_at "dx"
  rw [app2]
  walk_at "nxt"
  walk_at "an"
  refine ⟨_, lg, ?_⟩
  walk_at "dx"
  refine forW_map (inj := wgD) (fun r ρ m' => ∃ (f r2 : List Int) (v4 v5 v6 v7 v8 : Option D), (∀ g ∈ r, g ∈ gs) ∧ f.length = below.length ∧ r2.length = below.length ∧ ft1 p below r f = ft1 p below gs (zer below.length) ∧ rs1 p below r r2 = rs1 p below gs (zer below.length) ∧
    ρ = [some (.hnd k), some (.int p), some (.hnd m.M.length), some (.hnd (m.M.length + 1)), v4, v5, v6, v7, v8] ∧ m' = ⟨m.M ++ [.lst (f.map D.int), .lst (r2.map D.int)], m.s⟩) ?_ ?_ gs _ _ ⟨zer below.length, zer below.length, none, none, none, none, none, fun _ h => h, List.length_replicate, List.length_replicate, rfl, rfl, by rw [List.length_append]; rfl, rfl⟩
  · rintro g r kk hkk ρ m' ⟨f, r2, v4, v5, v6, v7, v8, hr, lf, lr, ef, er, rfl, rfl⟩
    obtain ⟨⟨a0, a1⟩, ⟨b0, b1⟩, ⟨c0, c1⟩, ⟨x0, x1⟩, ⟨y0, y1⟩⟩ := hg g (hr g List.mem_cons_self)
    have vy := gi_in hb y0 y1
    rw [show wgD g = .tup [.int g.a, .int g.b, .int g.c, .int g.x, .int g.y] from rfl]
    walk_at "dx"
    simp only [ap1, moL_lst]
    refine ⟨_, atI_gi x0 (by omega), ?_⟩
    walk_at "an"
    refine ⟨_, lb, ?_⟩
    walk_at "dx"
    refine ⟨_, atI_gi y0 y1, mulL c0 (by omega), ?_⟩
    walk_at "dx"
    simp only [ap1, moL_lst]
    refine ⟨by omega, g.x.toNat, ixN_of x0 (by rw [List.length_map]; omega), ?_⟩
    rw [st1, setM]
    simp only [ap2, moL_lst]
    refine ⟨_, atI_gi x0 (by omega), ?_⟩
    walk_at "an"
    refine ⟨_, lb, ?_⟩
    walk_at "dx"
    refine ⟨_, atI_gi y0 y1, mulL b0 (by omega), ?_⟩
    walk_at "dx"
    simp only [ap2, moL_lst]
    refine ⟨by omega, g.x.toNat, ixN_of x0 (by rw [List.length_map]; omega), ?_⟩
    rw [st2, setM]
    exact hkk _ _ ⟨_, _, _, _, _, _, _, fun g h => hr g (List.mem_cons_of_mem _ h), by rw [List.length_set]; exact lf, by rw [List.length_set]; exact lr, ef, er, rfl, rfl⟩
  · rintro ρ m' ⟨f, r2, v4, v5, v6, v7, v8, hr, lf, lr, ef, er, rfl, rfl⟩
    have ef : f = ft1 p below gs (zer below.length) := ef
    have er : r2 = rs1 p below gs (zer below.length) := er
    walk_at "nxt"
    walk_at "an"
    refine ⟨_, ls, _, lg, ?_⟩
    walk_at "dx"
    refine ⟨K.lt, ?_⟩
    subst h1
    rw [List.set_append_left _ _ hk]
    have kp : kept m (m.M.set k (.ins "Answerer" (putD "steps" (.int (st + (gs.length : Nat))) fs))) := kept.rfl.set (PlF.cl (Pl.put rfl))
    have hl : (m.M.set k (.ins "Answerer" (putD "steps" (.int (st + (gs.length : Nat))) fs))).length = m.M.length := List.length_set
    generalize hM : m.M.set k (.ins "Answerer" (putD "steps" (.int (st + (gs.length : Nat))) fs)) = M' at *
    rw [← hl]
    unfold dFrz
    walk_at "dx"
    simp only [ap2, st2, ap1, st1, moL_lst]
    rw [ef, er]
    exact ⟨by decide, M', _, _, rfl, kp, .inl rfl, clD_pl _ (plD_two _ _), q⟩
def C_Answerer_second_tables : DC := fun ds m Φ _ => ∃ (k : Nat) (fs : List (String × D)) (p st : Int) (gs : List WG) (below first : List Int) (v : Int), ds = [.hnd k, .int v] ∧ fs.lookup "first" = some (.lst (first.map D.int)) ∧ first.length ≤ 16 ∧ below.length = 2 ^ first.length ∧ 0 ≤ v ∧ v < p ∧ m.M[k]? = some (.ins "Answerer" fs) ∧ KeysOK ansKeys fs ∧ PlF fs ∧ fs.lookup "p" = some (.int p) ∧ fs.lookup "steps" = some (.int st) ∧
  fs.lookup "gates" = some (.lst (gs.map wgD)) ∧ fs.lookup "below" = some (.lst (below.map D.int)) ∧ PM p ∧ (∀ g ∈ gs, wgOK p below.length g) ∧ InP p below ∧ below.length ≤ 100000 ∧
  Φ (.tup [.lst ((ft2 p (pointT first p) v gs (zer below.length)).map D.int), .lst ((rs2 p (pointT first p) v gs (zer below.length)).map D.int)]) ⟨m.M.set k (.ins "Answerer" (putD "steps" (.int (st + (gs.length : Nat))) fs)), m.s⟩
def W_Answerer_second_tables (fl : String → List String) : DS := dSeq (dSet 2 (dFld (fl "p") "p" (dVar 0))) (dSeq (dSet 3 (dCall 2 C_point_table (dCons (dFld (fl "first") "first" (dVar 0)) (dCons (dVar 2) (dNil))))) (dSeq (dSet 4 (dOp oRepM (dLst (dCons (dC (.int 0)) (dNil))) (dCB cLen (dCons (dFld (fl "below") "below" (dVar 0)) (dNil))))) (dSeq (dSet 5 (dOp oRepM (dLst (dCons (dC (.int 0)) (dNil))) (dCB cLen (dCons (dFld (fl "below") "below" (dVar 0)) (dNil))))) (dSeq (dFor (diList (dFld (fl "gates") "gates" (dVar 0))) (dgTup [6, 7, 8, 9, 10]) (dSeq (dSetIx (dOp oMod (dOp oAdd (dOp oIx (dVar 4) (dVar 10)) (dOp oMul (dOp oIx (dVar 3) (dVar 9)) (dOp oAdd (dVar 7) (dOp oMul (dVar 8) (dVar 1))))) (dVar 2)) (dVar 4) (dVar 10)) (dSetIx (dOp oMod (dOp oAdd (dOp oIx (dVar 5) (dVar 10)) (dOp oMul (dOp oMod (dOp oMul (dOp oIx (dVar 3) (dVar 9)) (dVar 6)) (dVar 2)) (dVar 1))) (dVar 2)) (dVar 5) (dVar 10)))) (dSeq (dAugF (fl "steps") "steps" (fun i j => i + j) (dCB cLen (dCons (dFld (fl "gates") "gates" (dVar 0)) (dNil))) (dVar 0)) (dFrz 5 (dFrz 4 (dRet (dTup (dCons (dVar 4) (dCons (dVar 5) (dNil))))))))))))
theorem rd_Answerer_second_tables {fl : String → List String} (F : Fl_Answerer fl) : ∀ ds m Φ Ψ, ds.length = 2 → C_Answerer_second_tables ds m Φ Ψ → W_Answerer_second_tables fl { nx := fun _ m' => retQ m Φ .non m', rt := retQ m Φ } (fun _ => retX m Ψ) (ds.map some ++ List.replicate (11 - ds.length) none) m := by
  intro ds m Φ Ψ _ h
  obtain ⟨k, fs, p, st, gs, below, first, v, rfl, lf0, f16, bl, v0, v1, ob, K, Pl, lp, ls, lg, lb, hp, hg, hb, b1000, q⟩ := h
  have hp1 := hp.1
  have hp2 := hp.2
  have hk := getLt ob
  have obL := obApp ob
  change W_Answerer_second_tables fl _ _ [some (.hnd k), some (.int v), none, none, none, none, none, none, none, none, none] m
  unfold W_Answerer_second_tables
  walk_at "stp"
  walk_at "an"
  simp only [lp, Option.some.injEq, exists_eq_left']
  walk_at "nxt"
  walk_at "an"
  refine ⟨_, lf0, first, p, rfl, hp, f16, ?_⟩
  have hw : InP p (pointT first p) := pointT_in hp1
  have wl : (pointT first p).length = below.length := by rw [pointT_len, bl]
  generalize hW : pointT first p = w at *
  walk_at "nxt"
  walk_at "an"
  refine ⟨by decide, _, lb, ?_⟩
  walk_at "dx"
  unfold oRepM
  dsimp only
  have rl : ∀ n : Nat, n ≤ 100000 → [D.int 0].length * ((n : Nat) : Int).toNat ≤ LIM := fun n hn => by rw [Int.toNat_natCast, List.length_singleton]; show _ ≤ 16777216; omega
  refine ⟨rl _ b1000, by omega, by omega, ?_⟩
  rw [Int.toNat_natCast, rep0]
  walk_at "nxt"
  walk_at "an"
  refine ⟨by decide, _, lb, ?_⟩
  walk_at "dx"
  refine ⟨rl _ b1000, by omega, by omega, ?_⟩
  rw [Int.toNat_natCast, rep0]
  walk_at "dx"
  rw [app2]
  walk_at "nxt"
  walk_at "an"
  refine ⟨_, lg, ?_⟩
  walk_at "dx"
  refine forW_map (inj := wgD) (fun r ρ m' => ∃ (f r2 : List Int) (v6 v7 v8 v9 v10 : Option D), (∀ g ∈ r, g ∈ gs) ∧ f.length = below.length ∧ r2.length = below.length ∧ ft2 p w v r f = ft2 p w v gs (zer below.length) ∧ rs2 p w v r r2 = rs2 p w v gs (zer below.length) ∧
    ρ = [some (.hnd k), some (.int v), some (.int p), some (.lst (w.map D.int)), some (.hnd m.M.length), some (.hnd (m.M.length + 1)), v6, v7, v8, v9, v10] ∧ m' = ⟨m.M ++ [.lst (f.map D.int), .lst (r2.map D.int)], m.s⟩) ?_ ?_ gs _ _ ⟨zer below.length, zer below.length, none, none, none, none, none, fun _ h => h, List.length_replicate, List.length_replicate, rfl, rfl, by rw [List.length_append]; rfl, rfl⟩
  · rintro g r kk hkk ρ m' ⟨f, r2, v6, v7, v8, v9, v10, hr, lf, lr, ef, er, rfl, rfl⟩
    obtain ⟨⟨a0, a1⟩, ⟨b0, b1⟩, ⟨c0, c1⟩, ⟨x0, x1⟩, ⟨y0, y1⟩⟩ := hg g (hr g List.mem_cons_self)
    have wx := gi_in hw x0 (by omega)
    rw [show wgD g = .tup [.int g.a, .int g.b, .int g.c, .int g.x, .int g.y] from rfl]
    walk_at "dx"
    simp only [ap1, moL_lst]
    refine ⟨_, atI_gi y0 (by omega), ?_⟩
    walk_at "dx"
    refine ⟨_, atI_gi x0 (by omega), mulL c0 (by omega), ?_⟩
    walk_at "dx"
    refine ⟨mulL wx.1 (by omega), by omega, ?_⟩
    simp only [ap1, moL_lst]
    refine ⟨g.y.toNat, ixN_of y0 (by rw [List.length_map]; omega), ?_⟩
    rw [st1, setM]
    simp only [ap2, moL_lst]
    refine ⟨_, atI_gi y0 (by omega), ?_⟩
    walk_at "dx"
    refine ⟨_, atI_gi x0 (by omega), mulL wx.1 (by omega), ?_⟩
    walk_at "dx"
    refine ⟨by omega, mulR v0 (by omega), by omega, ?_⟩
    simp only [ap2, moL_lst]
    refine ⟨g.y.toNat, ixN_of y0 (by rw [List.length_map]; omega), ?_⟩
    rw [st2, setM]
    exact hkk _ _ ⟨_, _, _, _, _, _, _, fun g h => hr g (List.mem_cons_of_mem _ h), by rw [List.length_set]; exact lf, by rw [List.length_set]; exact lr, ef, er, rfl, rfl⟩
  · rintro ρ m' ⟨f, r2, v6, v7, v8, v9, v10, hr, lf, lr, ef, er, rfl, rfl⟩
    have ef : f = ft2 p w v gs (zer below.length) := ef
    have er : r2 = rs2 p w v gs (zer below.length) := er
    walk_at "nxt"
    walk_at "an"
    refine ⟨_, ls, _, lg, ?_⟩
    walk_at "dx"
    refine ⟨K.lt, ?_⟩
    subst h1
    rw [List.set_append_left _ _ hk]
    have kp : kept m (m.M.set k (.ins "Answerer" (putD "steps" (.int (st + (gs.length : Nat))) fs))) := kept.rfl.set (PlF.cl (Pl.put rfl))
    have hl : (m.M.set k (.ins "Answerer" (putD "steps" (.int (st + (gs.length : Nat))) fs))).length = m.M.length := List.length_set
    generalize hM : m.M.set k (.ins "Answerer" (putD "steps" (.int (st + (gs.length : Nat))) fs)) = M' at *
    rw [← hl]
    unfold dFrz
    walk_at "dx"
    simp only [ap2, st2, ap1, st1, moL_lst]
    rw [ef, er]
    exact ⟨by decide, M', _, _, rfl, kp, .inl rfl, clD_pl _ (plD_two _ _), q⟩
end Dl

namespace Dl
open PySem L2
local macro_rules | `(tactic| walk_at "dl") => `(tactic| try simp only [dSeq, dSet, dRaise_one, dRaise_two, dTryAs, dXf, dIsE, List.lookup_cons, List.lookup_nil, beq_self_eq_true, Bool.false_eq_true, if_false, dOp, dUn, dVar, dC, dCB, dCons, dNil, dRet, dRetN, dIf, dB, dAnd, dOr, dNot, dDrop, dNext, dMethL, dSetIx, dAndV, dOrV, dNotV, dBlV, dIfE, dLst, dTup, dLstM, dCall, dChain, dAsg, dgName, dgTup, bindD, asT, dFor, diList, diRng1, diRng2, diEnumerate, diZip, diReversed, dLc, dLcM, dYes, wipeD, dAug, dSl, dSlT, dpN, dpS,
  oI, oI0, oB0, oAdd, oNeg, oEq, oNe, oIx, oIsN, oNotN, isNon, oShl, oApp, oPop, oPopAt, cLen, cInt, cAbs, cSum, cMax2, cMin2, cList, cIsi, tyD, asL, asF, asK, moL_lst, ModC, DivC,
  List.getElem?_cons_zero, List.getElem?_cons_succ, List.set_cons_zero, List.set_cons_succ, List.getElem?_nil, List.length_cons, List.length_nil, List.length_map, Option.map_some, Option.bind_some, Option.isSome_some, if_true, true_and, and_true, MM.push])
local macro_rules | `(tactic| walk_at "dx") => `(tactic| try simp only [eq_self_iff_true, okE_int, okE_bl, okE_non, eqD_int, eqD_bl, kq_NoneType_int, kq_NoneType_bool, kq_NoneType_list, kq_NoneType_tuple, kq_NoneType_str, kq_bool_int, kq_bool_bool, kq_bool_list, kq_bool_tuple, kq_bool_str, kq_int_int, kq_int_bool, kq_int_list, kq_int_tuple, kq_int_str, kq_str_int, kq_str_bool, kq_str_list, kq_str_tuple, kq_str_str, kq_list_int, kq_list_bool, kq_list_list, kq_list_tuple, kq_list_str, kq_tuple_int, kq_tuple_bool, kq_tuple_list, kq_tuple_tuple, kq_tuple_str, oInL, oIsB, oNotB, oEqH, oNeH, oShr, oExt, cMaxL, cMinL, cAny, cAll, cTuple, cListM, dRevL, dFld, dSetF, dAugF, dMeth, dMake, moI_ins, app_len, set_app, List.contains_cons, List.contains_nil, Bool.true_or,  Bool.true_eq_false, decide_true, not_true_eq_false, not_false_eq_true, Bool.not_true, Bool.not_false, decide_eq_true_eq, Bool.not_eq_true', decide_eq_false_iff_not, dSeq, dSet, dRaise_one, dRaise_two, dTryAs, dXf, dIsE, List.lookup_cons, List.lookup_nil, beq_self_eq_true, Bool.false_eq_true, if_false, dOp, dUn, dVar, dC, dCB, dCons, dNil, dRet, dRetN, dIf, dB, dAnd, dOr, dNot, dDrop, dNext, dMethL, dSetIx, dAndV, dOrV, dNotV, dBlV, dIfE, dLst, dTup, dLstM, dCall, dChain, dAsg, dgName, dgTup, bindD, asT, dFor, diList, diRng1, diRng2, diEnumerate, diZip, diReversed, dLc, dLcM, dYes, wipeD, dAug, dSl, dSlT, dpN, dpS,
  oI, oI0, oB0, oAdd, oNeg, oEq, oNe, oIx, oIsN, oNotN, isNon, oShl, oApp, oPop, oPopAt, cLen, cInt, cAbs, cSum, cMax2, cMin2, cList, cIsi, tyD, asL, asF, asK, moL_lst, ModC, DivC,
  List.getElem?_cons_zero, List.getElem?_cons_succ, List.set_cons_zero, List.set_cons_succ, List.getElem?_nil, List.length_cons, List.length_nil, List.length_map, Option.map_some, Option.bind_some, Option.isSome_some, if_true, true_and, and_true, MM.push])
local macro_rules | `(tactic| walk_at "lim") => `(tactic| repeat (first | (refine ⟨by decide, ?_⟩) | (refine ⟨by (try simp only [List.length_map, List.length_dropLast, List.length_append, List.length_cons, List.length_nil, List.length_replicate, List.length_take, List.length_drop, List.length_range]); (show _ ≤ 16777216); omega, ?_⟩)))

set_option hygiene false in
local macro_rules | `(tactic| walk_at "stp") => `(tactic| (refine dSeq_k fun k1 h1 => ?_; walk_at "dx"))
set_option hygiene false in
local macro_rules | `(tactic| walk_at "nxt") => `(tactic| (subst h1; (try dsimp only); refine dSeq_k fun k1 h1 => ?_; walk_at "dx"))
set_option hygiene false in
local macro_rules | `(tactic| walk_at "lst") => `(tactic| (subst h1; (try dsimp only); walk_at "dx"))
set_option hygiene false in
local macro_rules | `(tactic| walk_at "nxt2") => `(tactic| (subst h2; (try dsimp only); refine dSeq_k fun k2 h2 => ?_; walk_at "dx"))
set_option hygiene false in
local macro_rules | `(tactic| walk_at "stp2") => `(tactic| (refine dSeq_k fun k2 h2 => ?_; walk_at "dx"))
set_option hygiene false in
local macro_rules | `(tactic| walk_at "lst2") => `(tactic| (subst h2; (try dsimp only); walk_at "dx"))
set_option hygiene false in
local macro_rules | `(tactic| walk_at "an") => `(tactic| (walk_at "dx"; (try simp only [dgTupG, dgsCons, dgsNil, dgFld, asT, dVar, List.length_cons, List.length_nil, List.getElem?_cons_zero, ob, obL, hk, moI_ins, Fl_Answerer.circuit, Fl_Answerer.tables, Fl_Answerer.bits, Fl_Answerer.p, Fl_Answerer.steps, Fl_Answerer.layer, Fl_Answerer.round, Fl_Answerer.wide, Fl_Answerer.gates, Fl_Answerer.near, Fl_Answerer.columns, Fl_Answerer.first, Fl_Answerer.second, Fl_Answerer.share, Fl_Answerer.below, Fl_Answerer.factors, Fl_Answerer.rest, Fl_Answerer.left,
  List.getElem?_set_self, List.set_set, List.length_set, look_put, String.reduceEq, reduceIte, exists_eq_left', Option.some.injEq, true_and, and_true])))

theorem put_put {f : String} {a b : D} : ∀ {fs : List (String × D)}, putD f b (putD f a fs) = putD f b fs
  | [] => by
    show putD f b [(f, a)] = [(f, b)]
    unfold putD
    rw [if_pos rfl]
  | (k, x) :: r => by
    by_cases e : k = f
    · have e1 : ∀ v, putD f v ((k, x) :: r) = (k, v) :: r := fun v => if_pos e
      rw [e1, e1]
      exact if_pos e
    · have e1 : ∀ v y q, putD f v ((k, y) :: q) = (k, y) :: putD f v q := fun v y q => if_neg e
      rw [e1, e1, e1, put_put]
theorem put_same {f : String} {v : D} : ∀ {fs : List (String × D)}, fs.lookup f = some v → putD f v fs = fs
  | [], h => by cases h
  | (k, x) :: r, h => by
    by_cases e : k = f
    · rw [List.lookup_cons, e, beq_self_eq_true] at h
      cases h
      exact if_pos e
    · rw [List.lookup_cons, beq_eq_false_iff_ne.mpr (fun z => e z.symm)] at h
      exact (if_neg e).trans (by rw [put_same h])
theorem set_self {M : List MO} {k : Nat} {o : MO} (h : M[k]? = some o) : M.set k o = M := by
  refine List.ext_getElem? fun i => ?_
  by_cases e : k = i
  · subst e; rw [List.getElem?_set_self (getLt h), h]
  · rw [List.getElem?_set_ne e]
theorem two_half {n : Nat} (h : 0 < n) : 2 ^ n / 2 = 2 ^ (n - 1) := by
  obtain ⟨e, rfl⟩ : ∃ e, n = e + 1 := ⟨n - 1, by omega⟩
  rw [Nat.pow_succ, Nat.mul_div_cancel _ (by decide)]; rfl
/-- the object with other steps -/
def stD (st : Int) (fs : List (String × D)) : MO := .ins "Answerer" (putD "steps" (.int st) fs)
def C_Answerer_row_value : DC := fun ds m Φ _ => ∃ (k : Nat) (t : Int) (fs : List (String × D)) (s : AS), ds = [.hnd k, .int t] ∧ m.M[k]? = some (.ins "Answerer" fs) ∧ A1 fs s ∧ V1 s ∧ s.round < s.b ∧ 0 ≤ t ∧ t ≤ 2147483647 ∧
  Φ (.int (rowV s t)) ⟨m.M.set k (stD (s.steps + rowSt s) fs), m.s⟩
def W_Answerer_row_value (fl : String → List String) : DS := dSeq (dSet 2 (dFld (fl "p") "p" (dVar 0))) (dSeq (dSet 3 (dC (.int 0))) (dSeq (dFor (diRng1 (dCons (dOp oDiv (dCB cLen (dCons (dFld (fl "near") "near" (dVar 0)) (dNil))) (dC (.int 2))) (dNil))) (dgName 4) (dSeq (dSet 5 (dLc (diList (dFld (fl "columns") "columns" (dVar 0))) (dgName 6) (dYes) (dOp oMod (dCall 3 C_at_number (dCons (dVar 6) (dCons (dVar 4) (dCons (dVar 1) (dNil))))) (dVar 2)) [6])) (dSeq (dAug 3 (oI0 fun i j => i + j) (dOp oMul (dOp oMod (dCall 3 C_at_number (dCons (dFld (fl "near") "near" (dVar 0)) (dCons (dVar 4) (dCons (dVar 1) (dNil))))) (dVar 2)) (dCall 3 C_gates_sum (dCons (dFld (fl "gates") "gates" (dVar 0)) (dCons (dVar 5) (dCons (dVar 2) (dNil))))))) (dAugF (fl "steps") "steps" (fun i j => i + j) (dOp oAdd (dCB cLen (dCons (dFld (fl "gates") "gates" (dVar 0)) (dNil))) (dCB cLen (dCons (dVar 5) (dNil)))) (dVar 0))))) (dRet (dOp oMod (dVar 3) (dVar 2)))))
theorem S_next (f : Nat → Int) (n : Nat) : S (n + 1) f = S n f + f n := rfl
theorem rd_Answerer_row_value {fl : String → List String} (F : Fl_Answerer fl) : ∀ ds m Φ Ψ, ds.length = 2 → C_Answerer_row_value ds m Φ Ψ → W_Answerer_row_value fl { nx := fun _ m' => Φ .non m', rt := Φ } (fun _ => Ψ) (ds.map some ++ List.replicate (7 - ds.length) none) m := by
  intro ds m Φ Ψ _ h
  obtain ⟨k, t, fs, s, rfl, ob, a1, v1, rb, t0, t1, q⟩ := h
  have hp := v1.pm
  have hp1 := hp.1
  have hp2 := hp.2
  have hk := getLt ob
  have obL := obApp ob
  have nl := v1.nl
  have half := two_half (n := s.b - s.round) (by omega)
  have p10 : (2 : Nat) ^ (s.b - s.round) ≤ 2 ^ 10 := Nat.pow_le_pow_right (by decide) (by have := v1.b3; omega)
  have w10 : (2 : Nat) ^ s.wide ≤ 2 ^ 10 := Nat.pow_le_pow_right (by decide) v1.w3
  have two : 2 * (s.near.length / 2) = s.near.length := by
    rw [nl, half]
    obtain ⟨e, he⟩ : ∃ e, s.b - s.round = e + 1 := ⟨s.b - s.round - 1, by omega⟩
    rw [he, Nat.pow_succ, Nat.add_sub_cancel]; omega
  have cl := v1.cl
  have ncol := a1.near
  have lcol := a1.columns
  have lst := a1.steps
  have lg := a1.gates
  have lp := a1.p
  change W_Answerer_row_value fl _ _ [some (.hnd k), some (.int t), none, none, none, none, none] m
  unfold W_Answerer_row_value
  walk_at "stp"
  walk_at "an"
  refine ⟨_, lp, ?_⟩
  walk_at "nxt"
  walk_at "nxt"
  walk_at "an"
  refine ⟨_, ncol, ?_⟩
  walk_at "dx"
  rw [show ((s.near.length : Nat) : Int) / 2 = ((s.near.length / 2 : Nat) : Int) by omega]
  refine ⟨⟨by decide, by decide⟩, ?_⟩
  refine ⟨⟨by omega, by omega⟩, ?_⟩
  rw [rngD0, Int.toNat_natCast]
  have rowS : rowSt s = ((s.near.length / 2 : Nat) : Int) * ((s.gates.length : Nat) + (s.cols.length : Nat)) := rfl
  generalize hH : s.near.length / 2 = Hf at *
  refine forW_nat (fun i ρ m' => ∃ v4 v5 v6 : Option D, ρ = [some (.hnd k), some (.int t), some (.int s.c.p), some (.int (S i fun k => atN s.near k t % s.c.p * gsum s.c.p s.gates (s.cols.map fun c => atN c k t % s.c.p))), v4, v5, v6] ∧ m' = ⟨m.M.set k (stD (s.steps + (i : Nat) * ((s.gates.length : Nat) + (s.cols.length : Nat))) fs), m.s⟩) ?_ ?_ ⟨none, none, none, rfl, ?_⟩
  · rintro i kk hi hkk ρ m' ⟨v4, v5, v6, rfl, rfl⟩
    clear h1
    unfold stD at hkk ⊢
    walk_at "stp"
    walk_at "an"
    refine ⟨_, lcol, ?_⟩
    rw [show tabL s.cols = .lst (s.cols.map intL) from rfl]
    walk_at "dx"
    refine lcW_fn (inj := intL) (out := D.int) (fun c => atN c i t % s.c.p) _ s.cols ?_ (fun _ => rfl) (by rw [cl]; show _ ≤ 16777216; omega) ?_
    · intro c hc m2 Θ hΘ
      have hcl := (v1.col c hc).2
      unfold intL
      walk_at "dx"
      refine ⟨c, i, t, rfl, by omega, t0, t1, ?_⟩
      walk_at "dx"
      exact ⟨by omega, hΘ⟩
    have cin : InP s.c.p (s.cols.map fun c => atN c i t % s.c.p) := inP_mod hp1 _ _
    have cln : (s.cols.map fun c => atN c i t % s.c.p).length = 2 ^ s.wide := by rw [List.length_map, cl]
    walk_at "nxt"
    walk_at "an"
    refine ⟨_, ncol, s.near, i, t, rfl, by omega, t0, t1, ?_⟩
    walk_at "dx"
    refine ⟨by omega, ?_⟩
    walk_at "an"
    refine ⟨_, lg, s.gates, s.cols.map (fun c => atN c i t % s.c.p), s.c.p, rfl, hp, fun g hg => by rw [cln]; exact v1.g g hg, cin, ?_⟩
    have gin : 0 ≤ gsum s.c.p s.gates (s.cols.map fun c => atN c i t % s.c.p) ∧ gsum s.c.p s.gates (s.cols.map fun c => atN c i t % s.c.p) < s.c.p := mod_in hp1
    walk_at "dx"
    refine ⟨mulR gin.1 (by omega), ?_⟩
    walk_at "lst"
    walk_at "an"
    refine ⟨_, rfl, _, lg, ?_⟩
    walk_at "an"
    refine ⟨(a1.k.put (by decide)).lt, ?_⟩
    rw [put_put]
    refine hkk _ _ ⟨_, _, _, rfl, ?_⟩
    rw [show (((i + 1 : Nat) : Int)) * ((s.gates.length : Nat) + (s.cols.length : Nat)) = (i : Nat) * ((s.gates.length : Nat) + (s.cols.length : Nat)) + ((s.gates.length : Nat) + (s.cols.length : Nat)) by rw [Int.natCast_add, Int.add_mul]; simp]
    rw [Int.add_assoc]
  · rintro ρ m' ⟨v4, v5, v6, rfl, rfl⟩
    walk_at "lst"
    unfold rowV at q
    rw [hH, rowS] at q
    exact ⟨by omega, q⟩
  · rw [show ((0 : Nat) : Int) * ((s.gates.length : Nat) + (s.cols.length : Nat)) = 0 by simp, Int.add_zero]
    unfold stD
    rw [put_same lst, set_self ob]
def C_Answerer_column_value : DC := fun ds m Φ _ => ∃ (k : Nat) (t : Int) (fs : List (String × D)) (s : AS), ds = [.hnd k, .int t] ∧ m.M[k]? = some (.ins "Answerer" fs) ∧ A2 fs s ∧ V1 s ∧ V2 s (leftL s) ∧ s.b ≤ s.round ∧ s.round < s.b + 2 * s.wide ∧ 0 ≤ t ∧ t ≤ 2147483647 ∧
  Φ (.int (colV s t)) ⟨m.M.set k (stD (s.steps + colSt s) fs), m.s⟩
def W_Answerer_column_value (fl : String → List String) : DS := dSeq (dSet 2 (dFld (fl "p") "p" (dVar 0))) (dSeq (dSet 3 (dC (.int 0))) (dSeq (dFor (diRng1 (dCons (dOp oDiv (dCB cLen (dCons (dFld (fl "left") "left" (dVar 0)) (dNil))) (dC (.int 2))) (dNil))) (dgName 4) (dSeq (dAug 3 (oI0 fun i j => i + j) (dOp oMul (dCall 3 C_at_number (dCons (dFld (fl "factors") "factors" (dVar 0)) (dCons (dVar 4) (dCons (dVar 1) (dNil))))) (dCall 3 C_at_number (dCons (dFld (fl "left") "left" (dVar 0)) (dCons (dVar 4) (dCons (dVar 1) (dNil))))))) (dSeq (dAug 3 (oI0 fun i j => i + j) (dCall 3 C_at_number (dCons (dFld (fl "rest") "rest" (dVar 0)) (dCons (dVar 4) (dCons (dVar 1) (dNil)))))) (dAugF (fl "steps") "steps" (fun i j => i + j) (dC (.int 1)) (dVar 0))))) (dRet (dOp oMod (dOp oMul (dVar 3) (dFld (fl "share") "share" (dVar 0))) (dVar 2)))))
theorem rd_Answerer_column_value {fl : String → List String} (F : Fl_Answerer fl) : ∀ ds m Φ Ψ, ds.length = 2 → C_Answerer_column_value ds m Φ Ψ → W_Answerer_column_value fl { nx := fun _ m' => Φ .non m', rt := Φ } (fun _ => Ψ) (ds.map some ++ List.replicate (5 - ds.length) none) m := by
  intro ds m Φ Ψ _ h
  obtain ⟨k, t, fs, s, rfl, ob, a2, v1, v2, rb, rw2, t0, t1, q⟩ := h
  have hp := v1.pm
  have hp1 := hp.1
  have hp2 := hp.2
  have hk := getLt ob
  have obL := obApp ob
  have w3 := v1.w3
  obtain ⟨e, he, he2⟩ : ∃ e, leftL s = 2 ^ (e + 1) ∧ e + 1 ≤ 10 := by
    unfold leftL
    split
    · exact ⟨s.wide - (s.round - s.b) - 1, by congr 1; omega, by omega⟩
    · exact ⟨s.wide - (s.round - s.b - s.wide) - 1, by congr 1; omega, by omega⟩
  have p10 : (2 : Nat) ^ (e + 1) ≤ 2 ^ 10 := Nat.pow_le_pow_right (by decide) he2
  have ll : s.left.length = 2 ^ (e + 1) := v2.leftl.trans he
  have fl2 : s.fac.length = 2 ^ (e + 1) := v2.facl.trans he
  have rl : s.rest.length = 2 ^ (e + 1) := v2.restl.trans he
  have hH : s.left.length / 2 = 2 ^ e := by rw [ll, Nat.pow_succ, Nat.mul_div_cancel _ (by decide)]
  rw [Nat.pow_succ] at p10 ll fl2 rl
  have lst := a2.steps
  have lp := a2.p
  change W_Answerer_column_value fl _ _ [some (.hnd k), some (.int t), none, none, none] m
  unfold W_Answerer_column_value
  walk_at "stp"
  walk_at "an"
  refine ⟨_, lp, ?_⟩
  walk_at "nxt"
  walk_at "nxt"
  walk_at "an"
  refine ⟨_, a2.left, ?_⟩
  walk_at "dx"
  rw [show ((s.left.length : Nat) : Int) / 2 = ((s.left.length / 2 : Nat) : Int) by omega, hH]
  refine ⟨⟨by decide, by decide⟩, ?_⟩
  refine ⟨⟨by omega, by omega⟩, ?_⟩
  rw [rngD0, Int.toNat_natCast]
  have colS : colSt s = ((2 ^ e : Nat) : Int) := by unfold colSt; rw [hH]
  generalize hE : 2 ^ e = Hf at *
  refine forW_nat (fun i ρ m' => ∃ v4 : Option D, ρ = [some (.hnd k), some (.int t), some (.int s.c.p), some (.int (S i fun k => atN s.fac k t * atN s.left k t + atN s.rest k t)), v4] ∧ m' = ⟨m.M.set k (stD (s.steps + (i : Nat)) fs), m.s⟩) ?_ ?_ ⟨none, rfl, ?_⟩
  · rintro i kk hi hkk ρ m' ⟨v4, rfl, rfl⟩
    clear h1
    unfold stD at hkk ⊢
    have lin := v2.left.gN (i := 2 * i) (by omega)
    have lin2 := v2.left.gN (i := 2 * i + 1) (by omega)
    walk_at "stp"
    walk_at "an"
    refine ⟨_, a2.factors, s.fac, i, t, rfl, by omega, t0, t1, ?_⟩
    walk_at "an"
    refine ⟨_, a2.left, s.left, i, t, rfl, by omega, t0, t1, ?_⟩
    walk_at "dx"
    refine ⟨?_, ?_⟩
    · unfold atN
      have f1 := v2.fac.gN (i := 2 * i) (by omega)
      have f2 := v2.fac.gN (i := 2 * i + 1) (by omega)
      rw [show (2 * (i : Nat) : Int) = ((2 * i : Nat) : Int) by omega, show (((2 * i : Nat) : Int) + 1) = ((2 * i + 1 : Nat) : Int) by omega]
      have z : ∀ a b : Int, 0 ≤ a → a < s.c.p → 0 ≤ b → b < s.c.p → -(2 ^ 64) < a + t * (b - a) ∧ a + t * (b - a) < 2 ^ 64 := fun a b a0 a1 b0 b1 => by
        have h1 : t * (b - a) ≤ 2147483647 * 2147483647 := by
          rcases Int.le_total 0 (b - a) with z | z
          · exact Int.mul_le_mul t1 (by omega) z (by decide)
          · have := Int.mul_nonpos_of_nonneg_of_nonpos t0 z; omega
        have h2 : -(2147483647 * 2147483647) ≤ t * (b - a) := by
          have h3 : t * (a - b) ≤ 2147483647 * 2147483647 := by
            rcases Int.le_total 0 (a - b) with z | z
            · exact Int.mul_le_mul t1 (by omega) z (by decide)
            · have := Int.mul_nonpos_of_nonneg_of_nonpos t0 z; omega
          have : t * (b - a) = -(t * (a - b)) := by rw [← Int.mul_neg]; congr 1; omega
          omega
        omega
      exact .inl (z _ _ f1.1 f1.2 f2.1 f2.2)
    walk_at "nxt"
    walk_at "an"
    refine ⟨_, a2.rest, s.rest, i, t, rfl, by omega, t0, t1, ?_⟩
    walk_at "lst"
    walk_at "an"
    refine ⟨_, rfl, ?_⟩
    walk_at "an"
    refine ⟨(a2.k.put (by decide)).lt, ?_⟩
    rw [put_put]
    refine hkk _ _ ⟨some (.int (i : Nat)), ?_, ?_⟩
    · rw [S_next, Int.add_assoc]
    · rw [Int.add_assoc]; rfl
  · rintro ρ m' ⟨v4, rfl, rfl⟩
    unfold stD
    walk_at "lst"
    walk_at "an"
    refine ⟨_, a2.share, mulR v2.share.1 (by have := v2.share.2; omega), ?_⟩
    walk_at "dx"
    unfold colV stD at q
    rw [hH, colS] at q
    exact ⟨by omega, q⟩
  · rw [show ((0 : Nat) : Int) = 0 from rfl, Int.add_zero]
    unfold stD
    rw [put_same lst, set_self ob]
end Dl

namespace Dl
open PySem L2
local macro_rules | `(tactic| walk_at "dl") => `(tactic| try simp only [dSeq, dSet, dRaise_one, dRaise_two, dTryAs, dXf, dIsE, List.lookup_cons, List.lookup_nil, beq_self_eq_true, Bool.false_eq_true, if_false, dOp, dUn, dVar, dC, dCB, dCons, dNil, dRet, dRetN, dIf, dB, dAnd, dOr, dNot, dDrop, dNext, dMethL, dSetIx, dAndV, dOrV, dNotV, dBlV, dIfE, dLst, dTup, dLstM, dCall, dChain, dAsg, dgName, dgTup, bindD, asT, dFor, diList, diRng1, diRng2, diEnumerate, diZip, diReversed, dLc, dLcM, dYes, wipeD, dAug, dSl, dSlT, dpN, dpS,
  oI, oI0, oB0, oAdd, oNeg, oEq, oNe, oIx, oIsN, oNotN, isNon, oShl, oApp, oPop, oPopAt, cLen, cInt, cAbs, cSum, cMax2, cMin2, cList, cIsi, tyD, asL, asF, asK, moL_lst, ModC, DivC,
  List.getElem?_cons_zero, List.getElem?_cons_succ, List.set_cons_zero, List.set_cons_succ, List.getElem?_nil, List.length_cons, List.length_nil, List.length_map, Option.map_some, Option.bind_some, Option.isSome_some, if_true, true_and, and_true, MM.push])
local macro_rules | `(tactic| walk_at "dx") => `(tactic| try simp only [eq_self_iff_true, okE_int, okE_bl, okE_non, eqD_int, eqD_bl, kq_NoneType_int, kq_NoneType_bool, kq_NoneType_list, kq_NoneType_tuple, kq_NoneType_str, kq_bool_int, kq_bool_bool, kq_bool_list, kq_bool_tuple, kq_bool_str, kq_int_int, kq_int_bool, kq_int_list, kq_int_tuple, kq_int_str, kq_str_int, kq_str_bool, kq_str_list, kq_str_tuple, kq_str_str, kq_list_int, kq_list_bool, kq_list_list, kq_list_tuple, kq_list_str, kq_tuple_int, kq_tuple_bool, kq_tuple_list, kq_tuple_tuple, kq_tuple_str, oInL, oIsB, oNotB, oEqH, oNeH, oShr, oExt, cMaxL, cMinL, cAny, cAll, cTuple, cListM, dRevL, dFld, dSetF, dAugF, dMeth, dMake, moI_ins, app_len, set_app, List.contains_cons, List.contains_nil, Bool.true_or,  Bool.true_eq_false, decide_true, not_true_eq_false, not_false_eq_true, Bool.not_true, Bool.not_false, decide_eq_true_eq, Bool.not_eq_true', decide_eq_false_iff_not, dSeq, dSet, dRaise_one, dRaise_two, dTryAs, dXf, dIsE, List.lookup_cons, List.lookup_nil, beq_self_eq_true, Bool.false_eq_true, if_false, dOp, dUn, dVar, dC, dCB, dCons, dNil, dRet, dRetN, dIf, dB, dAnd, dOr, dNot, dDrop, dNext, dMethL, dSetIx, dAndV, dOrV, dNotV, dBlV, dIfE, dLst, dTup, dLstM, dCall, dChain, dAsg, dgName, dgTup, bindD, asT, dFor, diList, diRng1, diRng2, diEnumerate, diZip, diReversed, dLc, dLcM, dYes, wipeD, dAug, dSl, dSlT, dpN, dpS,
  oI, oI0, oB0, oAdd, oNeg, oEq, oNe, oIx, oIsN, oNotN, isNon, oShl, oApp, oPop, oPopAt, cLen, cInt, cAbs, cSum, cMax2, cMin2, cList, cIsi, tyD, asL, asF, asK, moL_lst, ModC, DivC,
  List.getElem?_cons_zero, List.getElem?_cons_succ, List.set_cons_zero, List.set_cons_succ, List.getElem?_nil, List.length_cons, List.length_nil, List.length_map, Option.map_some, Option.bind_some, Option.isSome_some, if_true, true_and, and_true, MM.push])
local macro_rules | `(tactic| walk_at "lim") => `(tactic| repeat (first | (refine ⟨by decide, ?_⟩) | (refine ⟨by (try simp only [List.length_map, List.length_dropLast, List.length_append, List.length_cons, List.length_nil, List.length_replicate, List.length_take, List.length_drop, List.length_range]); (show _ ≤ 16777216); omega, ?_⟩)))

set_option hygiene false in
local macro_rules | `(tactic| walk_at "stp") => `(tactic| (refine dSeq_k fun k1 h1 => ?_; walk_at "dx"))
set_option hygiene false in
local macro_rules | `(tactic| walk_at "nxt") => `(tactic| (subst h1; (try dsimp only); refine dSeq_k fun k1 h1 => ?_; walk_at "dx"))
set_option hygiene false in
local macro_rules | `(tactic| walk_at "lst") => `(tactic| (subst h1; (try dsimp only); walk_at "dx"))
set_option hygiene false in
local macro_rules | `(tactic| walk_at "nxt2") => `(tactic| (subst h2; (try dsimp only); refine dSeq_k fun k2 h2 => ?_; walk_at "dx"))
set_option hygiene false in
local macro_rules | `(tactic| walk_at "stp2") => `(tactic| (refine dSeq_k fun k2 h2 => ?_; walk_at "dx"))
set_option hygiene false in
local macro_rules | `(tactic| walk_at "lst2") => `(tactic| (subst h2; (try dsimp only); walk_at "dx"))
set_option hygiene false in
local macro_rules | `(tactic| walk_at "an") => `(tactic| (walk_at "dx"; (try simp only [dgTupG, dgsCons, dgsNil, dgFld, asT, dVar, List.length_cons, List.length_nil, List.getElem?_cons_zero, ob, obL, hk, moI_ins, Fl_Answerer.circuit, Fl_Answerer.tables, Fl_Answerer.bits, Fl_Answerer.p, Fl_Answerer.steps, Fl_Answerer.layer, Fl_Answerer.round, Fl_Answerer.wide, Fl_Answerer.gates, Fl_Answerer.near, Fl_Answerer.columns, Fl_Answerer.first, Fl_Answerer.second, Fl_Answerer.share, Fl_Answerer.below, Fl_Answerer.factors, Fl_Answerer.rest, Fl_Answerer.left,
  List.getElem?_set_self, List.set_set, List.length_set, look_put, String.reduceEq, reduceIte, exists_eq_left', Option.some.injEq, true_and, and_true])))

theorem st_lookup {st : Int} {fs : List (String × D)} {f : String} (h : f ≠ "steps") : (putD "steps" (.int st) fs).lookup f = fs.lookup f := by rw [look_put, if_neg (fun z => h z.symm)]
/-- other steps change no other field -/
theorem A0.st {fs : List (String × D)} {s : AS} (h : A0 fs s) (st : Int) : A0 (putD "steps" (.int st) fs) { s with steps := st } where
  k := h.k.put (by decide)
  pl := h.pl.put rfl
  circuit := (st_lookup (by decide)).trans h.circuit
  tables := (st_lookup (by decide)).trans h.tables
  bits := (st_lookup (by decide)).trans h.bits
  p := (st_lookup (by decide)).trans h.p
  steps := by rw [look_put, if_pos rfl]
theorem A1.st {fs : List (String × D)} {s : AS} (h : A1 fs s) (st : Int) : A1 (putD "steps" (.int st) fs) { s with steps := st } where
  toA0 := h.toA0.st st
  layer := (st_lookup (by decide)).trans h.layer
  round := (st_lookup (by decide)).trans h.round
  wide := (st_lookup (by decide)).trans h.wide
  gates := (st_lookup (by decide)).trans h.gates
  near := (st_lookup (by decide)).trans h.near
  columns := (st_lookup (by decide)).trans h.columns
  first := (st_lookup (by decide)).trans h.first
  second := (st_lookup (by decide)).trans h.second
theorem A2.st {fs : List (String × D)} {s : AS} (h : A2 fs s) (st : Int) : A2 (putD "steps" (.int st) fs) { s with steps := st } where
  toA1 := h.toA1.st st
  share := (st_lookup (by decide)).trans h.share
  below := (st_lookup (by decide)).trans h.below
  factors := (st_lookup (by decide)).trans h.factors
  rest := (st_lookup (by decide)).trans h.rest
  left := (st_lookup (by decide)).trans h.left
theorem V1.st {s : AS} (h : V1 s) (st : Int) : V1 { s with steps := st } := ⟨h.pm, h.b3, h.w3, h.g, h.gl, h.near, h.nl, h.cl, h.col, h.f, h.fl, h.sn, h.sl⟩
theorem V2.st {s : AS} {L : Nat} (h : V2 s L) (st : Int) : V2 { s with steps := st } L := ⟨h.share, h.below, h.bl, h.fac, h.facl, h.rest, h.restl, h.left, h.leftl⟩
def C_Answerer_poly : DC := fun ds m Φ _ => ∃ (k : Nat) (fs : List (String × D)) (s : AS), ds = [.hnd k] ∧ m.M[k]? = some (.ins "Answerer" fs) ∧ A1 fs s ∧ V1 s ∧ (s.b ≤ s.round → A2 fs s ∧ V2 s (leftL s)) ∧ s.round < s.b + 2 * s.wide ∧
  Φ (.lst ((polyF s).map D.int)) ⟨m.M.set k (stD (polyS s).steps fs), m.s⟩
def W_Answerer_poly (fl : String → List String) : DS := dSeq (dIf (dB (dOp oLt (dFld (fl "round") "round" (dVar 0)) (dFld (fl "bits") "bits" (dVar 0)))) (dRet (dLcS (diRng1 (dCons (dC (.int 4)) (dNil))) (dgName 1) (dYes) (dMeth [("Answerer", C_Answerer_row_value)] "row_value" 1 (dVar 0) (dCons (dVar 1) (dNil))) [1])) (dNext)) (dRet (dLcS (diRng1 (dCons (dC (.int 3)) (dNil))) (dgName 1) (dYes) (dMeth [("Answerer", C_Answerer_column_value)] "column_value" 1 (dVar 0) (dCons (dVar 1) (dNil))) [1]))
theorem rd_Answerer_poly {fl : String → List String} (F : Fl_Answerer fl) : ∀ ds m Φ Ψ, ds.length = 1 → C_Answerer_poly ds m Φ Ψ → W_Answerer_poly fl { nx := fun _ m' => Φ .non m', rt := Φ } (fun _ => Ψ) (ds.map some ++ List.replicate (2 - ds.length) none) m := by
  intro ds m Φ Ψ _ h
  obtain ⟨k, fs, s, rfl, ob, a1, v1, h2, hr, q⟩ := h
  have hk := getLt ob
  have obL := obApp ob
  have hp := v1.pm
  have hp1 := hp.1
  have hp2 := hp.2
  unfold polyF polyS at q
  dsimp only at q
  change W_Answerer_poly fl _ _ [some (.hnd k), none] m
  unfold W_Answerer_poly
  walk_at "stp"
  walk_at "an"
  refine ⟨_, a1.round, ?_⟩
  walk_at "an"
  refine ⟨_, a1.bits, ?_⟩
  walk_at "dx"
  have notm : ∀ st f, f ∉ ansKeys → (putD "steps" (.int st) fs).lookup f = none := fun st f hf => notkey (a1.k.put (f := "steps") (v := .int st) (by decide)) hf
  by_cases hb : s.round < s.b
  · rw [if_pos (by omega)]
    rw [if_pos hb, if_pos hb] at q
    refine ⟨⟨by decide, by decide⟩, ?_⟩
    rw [rngD0, show ((4 : Int)).toNat = 4 from rfl]
    refine lcWS_fn (out := fun t : Nat => D.int (rowV s (t : Nat))) (fun r m' => ∃ j : Nat, j + r.length = 4 ∧ (∀ t ∈ r, t < 4) ∧ m' = ⟨m.M.set k (stD (s.steps + (j : Nat) * rowSt s) fs), m.s⟩) ?_ (List.range 4) m [] (by decide) ⟨0, rfl, fun t ht => List.mem_range.mp ht, ?_⟩ ?_
    · rintro t r m' acc Θ ⟨j, hj, ht, rfl⟩ hΘ
      have t4 := ht t List.mem_cons_self
      have hlen : (m.M.set k (stD (s.steps + (j : Nat) * rowSt s) fs)).length = m.M.length := List.length_set
      have ob2 : (m.M.set k (stD (s.steps + (j : Nat) * rowSt s) fs) ++ [MO.lst acc])[k]? = some (stD (s.steps + (j : Nat) * rowSt s) fs) := obApp (List.getElem?_set_self hk) _
      unfold stD at ob2 hΘ hlen ⊢
      walk_at "dx"
      simp only [ob2, moI_ins]
      refine ⟨notm _ _ (by decide), k, (t : Nat), _, { s with steps := s.steps + (j : Nat) * rowSt s }, rfl, ob2, a1.st _, v1.st _, hb, by omega, by omega, ?_⟩
      have z := hΘ (m.M.set k (stD (s.steps + ((j + 1 : Nat) : Int) * rowSt s) fs)) m.s ?_ rfl ⟨j + 1, by rw [List.length_cons] at hj; omega, fun t h => ht t (List.mem_cons_of_mem _ h), rfl⟩
      · unfold stD at z ⊢
        rw [put_put, List.set_append_left _ _ (by rw [hlen]; exact hk), List.set_set]
        have e : s.steps + (j : Nat) * rowSt s + rowSt s = s.steps + ((j + 1 : Nat) : Int) * rowSt s := by rw [Int.natCast_add, Int.add_mul, Int.add_assoc]; simp
        have e2 : ({ s with steps := s.steps + (j : Nat) * rowSt s } : AS).steps + rowSt { s with steps := s.steps + (j : Nat) * rowSt s } = s.steps + ((j + 1 : Nat) : Int) * rowSt s := e
        rw [e2]
        exact z
      · refine ⟨by rw [List.length_set, List.length_set], fun i o ho => ?_⟩
        by_cases e : k = i
        · subst e
          rw [List.getElem?_set_self hk] at ho
          cases ho
          exact .inr (PlF.cl (a1.pl.put rfl))
        · rw [List.getElem?_set_ne e] at ho
          left
          show (m.M.set k _)[i]? = some o
          rw [List.getElem?_set_ne e]; exact ho
    · rw [show ((0 : Nat) : Int) * rowSt s = 0 by simp, Int.add_zero]
      unfold stD
      rw [put_same a1.steps, set_self ob]
    · rintro m' ⟨j, hj, _, rfl⟩
      have e : j = 4 := by simpa using hj
      subst e
      rw [List.nil_append]
      rw [List.map_map] at q
      exact q
  · rw [if_neg (by omega)]
    rw [if_neg hb, if_neg hb] at q
    obtain ⟨a2, v2⟩ := h2 (by omega)
    walk_at "lst"
    refine ⟨⟨by decide, by decide⟩, ?_⟩
    rw [rngD0, show ((3 : Int)).toNat = 3 from rfl]
    refine lcWS_fn (out := fun t : Nat => D.int (colV s (t : Nat))) (fun r m' => ∃ j : Nat, j + r.length = 3 ∧ (∀ t ∈ r, t < 3) ∧ m' = ⟨m.M.set k (stD (s.steps + (j : Nat) * colSt s) fs), m.s⟩) ?_ (List.range 3) m [] (by decide) ⟨0, rfl, fun t ht => List.mem_range.mp ht, ?_⟩ ?_
    · rintro t r m' acc Θ ⟨j, hj, ht, rfl⟩ hΘ
      have t4 := ht t List.mem_cons_self
      have hlen : (m.M.set k (stD (s.steps + (j : Nat) * colSt s) fs)).length = m.M.length := List.length_set
      have ob2 : (m.M.set k (stD (s.steps + (j : Nat) * colSt s) fs) ++ [MO.lst acc])[k]? = some (stD (s.steps + (j : Nat) * colSt s) fs) := obApp (List.getElem?_set_self hk) _
      unfold stD at ob2 hΘ hlen ⊢
      walk_at "dx"
      simp only [ob2, moI_ins]
      refine ⟨notm _ _ (by decide), k, (t : Nat), _, { s with steps := s.steps + (j : Nat) * colSt s }, rfl, ob2, a2.st _, v1.st _, v2.st _, by show s.b ≤ s.round; omega, hr, by omega, by omega, ?_⟩
      have z := hΘ (m.M.set k (stD (s.steps + ((j + 1 : Nat) : Int) * colSt s) fs)) m.s ?_ rfl ⟨j + 1, by rw [List.length_cons] at hj; omega, fun t h => ht t (List.mem_cons_of_mem _ h), rfl⟩
      · unfold stD at z ⊢
        rw [put_put, List.set_append_left _ _ (by rw [hlen]; exact hk), List.set_set]
        have e : s.steps + (j : Nat) * colSt s + colSt s = s.steps + ((j + 1 : Nat) : Int) * colSt s := by rw [Int.natCast_add, Int.add_mul, Int.add_assoc]; simp
        have e2 : ({ s with steps := s.steps + (j : Nat) * colSt s } : AS).steps + colSt { s with steps := s.steps + (j : Nat) * colSt s } = s.steps + ((j + 1 : Nat) : Int) * colSt s := e
        rw [e2]
        exact z
      · refine ⟨by rw [List.length_set, List.length_set], fun i o ho => ?_⟩
        by_cases e : k = i
        · subst e
          rw [List.getElem?_set_self hk] at ho
          cases ho
          exact .inr (PlF.cl (a1.pl.put rfl))
        · rw [List.getElem?_set_ne e] at ho
          left
          show (m.M.set k _)[i]? = some o
          rw [List.getElem?_set_ne e]; exact ho
    · rw [show ((0 : Nat) : Int) * colSt s = 0 by simp, Int.add_zero]
      unfold stD
      rw [put_same a1.steps, set_self ob]
    · rintro m' ⟨j, hj, _, rfl⟩
      have e : j = 3 := by simpa using hj
      subst e
      rw [List.nil_append]
      rw [List.map_map] at q
      exact q
end Dl

namespace Dl
open PySem L2
local macro_rules | `(tactic| walk_at "dl") => `(tactic| try simp only [dSeq, dSet, dRaise_one, dRaise_two, dTryAs, dXf, dIsE, List.lookup_cons, List.lookup_nil, beq_self_eq_true, Bool.false_eq_true, if_false, dOp, dUn, dVar, dC, dCB, dCons, dNil, dRet, dRetN, dIf, dB, dAnd, dOr, dNot, dDrop, dNext, dMethL, dSetIx, dAndV, dOrV, dNotV, dBlV, dIfE, dLst, dTup, dLstM, dCall, dChain, dAsg, dgName, dgTup, bindD, asT, dFor, diList, diRng1, diRng2, diEnumerate, diZip, diReversed, dLc, dLcM, dYes, wipeD, dAug, dSl, dSlT, dpN, dpS,
  oI, oI0, oB0, oAdd, oNeg, oEq, oNe, oIx, oIsN, oNotN, isNon, oShl, oApp, oPop, oPopAt, cLen, cInt, cAbs, cSum, cMax2, cMin2, cList, cIsi, tyD, asL, asF, asK, moL_lst, ModC, DivC,
  List.getElem?_cons_zero, List.getElem?_cons_succ, List.set_cons_zero, List.set_cons_succ, List.getElem?_nil, List.length_cons, List.length_nil, List.length_map, Option.map_some, Option.bind_some, Option.isSome_some, if_true, true_and, and_true, MM.push])
local macro_rules | `(tactic| walk_at "dx") => `(tactic| try simp only [eq_self_iff_true, okE_int, okE_bl, okE_non, eqD_int, eqD_bl, kq_NoneType_int, kq_NoneType_bool, kq_NoneType_list, kq_NoneType_tuple, kq_NoneType_str, kq_bool_int, kq_bool_bool, kq_bool_list, kq_bool_tuple, kq_bool_str, kq_int_int, kq_int_bool, kq_int_list, kq_int_tuple, kq_int_str, kq_str_int, kq_str_bool, kq_str_list, kq_str_tuple, kq_str_str, kq_list_int, kq_list_bool, kq_list_list, kq_list_tuple, kq_list_str, kq_tuple_int, kq_tuple_bool, kq_tuple_list, kq_tuple_tuple, kq_tuple_str, oInL, oIsB, oNotB, oEqH, oNeH, oShr, oExt, cMaxL, cMinL, cAny, cAll, cTuple, cListM, dRevL, dFld, dSetF, dAugF, dMeth, dMake, moI_ins, app_len, set_app, List.contains_cons, List.contains_nil, Bool.true_or,  Bool.true_eq_false, decide_true, not_true_eq_false, not_false_eq_true, Bool.not_true, Bool.not_false, decide_eq_true_eq, Bool.not_eq_true', decide_eq_false_iff_not, dSeq, dSet, dRaise_one, dRaise_two, dTryAs, dXf, dIsE, List.lookup_cons, List.lookup_nil, beq_self_eq_true, Bool.false_eq_true, if_false, dOp, dUn, dVar, dC, dCB, dCons, dNil, dRet, dRetN, dIf, dB, dAnd, dOr, dNot, dDrop, dNext, dMethL, dSetIx, dAndV, dOrV, dNotV, dBlV, dIfE, dLst, dTup, dLstM, dCall, dChain, dAsg, dgName, dgTup, bindD, asT, dFor, diList, diRng1, diRng2, diEnumerate, diZip, diReversed, dLc, dLcM, dYes, wipeD, dAug, dSl, dSlT, dpN, dpS,
  oI, oI0, oB0, oAdd, oNeg, oEq, oNe, oIx, oIsN, oNotN, isNon, oShl, oApp, oPop, oPopAt, cLen, cInt, cAbs, cSum, cMax2, cMin2, cList, cIsi, tyD, asL, asF, asK, moL_lst, ModC, DivC,
  List.getElem?_cons_zero, List.getElem?_cons_succ, List.set_cons_zero, List.set_cons_succ, List.getElem?_nil, List.length_cons, List.length_nil, List.length_map, Option.map_some, Option.bind_some, Option.isSome_some, if_true, true_and, and_true, MM.push])
local macro_rules | `(tactic| walk_at "lim") => `(tactic| repeat (first | (refine ⟨by decide, ?_⟩) | (refine ⟨by (try simp only [List.length_map, List.length_dropLast, List.length_append, List.length_cons, List.length_nil, List.length_replicate, List.length_take, List.length_drop, List.length_range]); (show _ ≤ 16777216); omega, ?_⟩)))

set_option hygiene false in
local macro_rules | `(tactic| walk_at "stp") => `(tactic| (refine dSeq_k fun k1 h1 => ?_; walk_at "dx"))
set_option hygiene false in
local macro_rules | `(tactic| walk_at "nxt") => `(tactic| (subst h1; (try dsimp only); refine dSeq_k fun k1 h1 => ?_; walk_at "dx"))
set_option hygiene false in
local macro_rules | `(tactic| walk_at "lst") => `(tactic| (subst h1; (try dsimp only); walk_at "dx"))
set_option hygiene false in
local macro_rules | `(tactic| walk_at "nxt2") => `(tactic| (subst h2; (try dsimp only); refine dSeq_k fun k2 h2 => ?_; walk_at "dx"))
set_option hygiene false in
local macro_rules | `(tactic| walk_at "stp2") => `(tactic| (refine dSeq_k fun k2 h2 => ?_; walk_at "dx"))
set_option hygiene false in
local macro_rules | `(tactic| walk_at "lst2") => `(tactic| (subst h2; (try dsimp only); walk_at "dx"))
set_option hygiene false in
local macro_rules | `(tactic| walk_at "an") => `(tactic| (walk_at "dx"; (try simp only [dgTupG, dgsCons, dgsNil, dgFld, asT, dVar, List.length_cons, List.length_nil, List.getElem?_cons_zero, ob, obL, hk, moI_ins, Fl_Answerer.circuit, Fl_Answerer.tables, Fl_Answerer.bits, Fl_Answerer.p, Fl_Answerer.steps, Fl_Answerer.layer, Fl_Answerer.round, Fl_Answerer.wide, Fl_Answerer.gates, Fl_Answerer.near, Fl_Answerer.columns, Fl_Answerer.first, Fl_Answerer.second, Fl_Answerer.share, Fl_Answerer.below, Fl_Answerer.factors, Fl_Answerer.rest, Fl_Answerer.left,
  List.getElem?_set_self, List.set_set, List.length_set, look_put, String.reduceEq, reduceIte, exists_eq_left', Option.some.injEq, true_and, and_true])))

theorem foldset_ok {α : Type} {p : Int} (hp : 2 ≤ p) (i : α → Nat) (v : List Int → α → Int) : ∀ (gs : List α) (f : List Int), InP p f → (gs.foldl (fun f g => f.set (i g) (v f g % p)) f).length = f.length ∧ InP p (gs.foldl (fun f g => f.set (i g) (v f g % p)) f)
  | [], f, h => ⟨rfl, h⟩
  | g :: gs, f, h => by
    have z := foldset_ok hp i v gs (f.set (i g) (v f g % p)) (fun x hx => by
      rcases List.mem_or_eq_of_mem_set hx with z | z
      · exact h x z
      · rw [z]; exact mod_in hp)
    rw [List.length_set] at z
    exact z
theorem zer_in {p : Int} (hp : 2 ≤ p) {n : Nat} : InP p (zer n) := fun x hx => by
  rw [List.eq_of_mem_replicate hx]; omega
theorem zer_len {n : Nat} : (zer n).length = n := List.length_replicate
theorem turn1_r (s : AS) : (turn1 s).round = s.round ∧ (turn1 s).b = s.b ∧ (turn1 s).wide = s.wide ∧ (turn1 s).c = s.c := by
  unfold turn1; split <;> exact ⟨rfl, rfl, rfl, rfl⟩
theorem turn2_r (s : AS) : (turn2 s).round = s.round ∧ (turn2 s).b = s.b ∧ (turn2 s).wide = s.wide ∧ (turn2 s).c = s.c := by
  unfold turn2; split <;> exact ⟨rfl, rfl, rfl, rfl⟩
theorem turnF_r (s : AS) : (turnF s).round = s.round ∧ (turnF s).b = s.b ∧ (turnF s).wide = s.wide ∧ (turnF s).c = s.c := by
  have h1 := turn1_r s
  have h2 := turn2_r (turn1 s)
  exact ⟨h2.1.trans h1.1, h2.2.1.trans h1.2.1, h2.2.2.1.trans h1.2.2.1, h2.2.2.2.trans h1.2.2.2⟩
theorem turn1_v1 {s : AS} (h : V1 s) : V1 (turn1 s) := by
  unfold turn1; split
  · exact ⟨h.pm, h.b3, h.w3, h.g, h.gl, h.near, h.nl, h.cl, h.col, h.f, h.fl, h.sn, h.sl⟩
  · exact h
theorem turn2_v1 {s : AS} (h : V1 s) : V1 (turn2 s) := by
  unfold turn2; split
  · exact ⟨h.pm, h.b3, h.w3, h.g, h.gl, h.near, h.nl, h.cl, h.col, h.f, h.fl, h.sn, h.sl⟩
  · exact h
theorem turn1_v2 {s : AS} (h : V1 s) (e : s.round = s.b) : V2 (turn1 s) (2 ^ s.wide) := by
  have hp1 := h.pm.1
  have nl := h.nl
  rw [e, Nat.sub_self, Nat.pow_zero] at nl
  have bin : InP s.c.p (s.cols.map fun c => gi c 0) := fun x hx => by
    obtain ⟨c, hc, rfl⟩ := List.mem_map.mp hx
    have z := h.col c hc
    rw [e, Nat.sub_self, Nat.pow_zero] at z
    exact z.1.gN (i := 0) (by omega)
  have bl : (s.cols.map fun c => gi c 0).length = 2 ^ s.wide := by rw [List.length_map, h.cl]
  have k1 := foldset_ok hp1 (fun g : WG => g.x.toNat) (fun f g => gi f g.x + g.a + g.c * gi (s.cols.map fun c => gi c 0) g.y) s.gates (zer s.cols.length) (zer_in hp1)
  have k2 := foldset_ok hp1 (fun g : WG => g.x.toNat) (fun f g => gi f g.x + g.b * gi (s.cols.map fun c => gi c 0) g.y) s.gates (zer s.cols.length) (zer_in hp1)
  rw [zer_len, h.cl] at k1 k2
  unfold turn1
  rw [if_pos e]
  exact ⟨h.near.gN (i := 0) (by omega), bin, bl, by show InP _ (ft1 _ _ _ (zer s.cols.length)); rw [h.cl]; exact k1.2, by show (ft1 _ _ _ _).length = _; rw [h.cl]; exact k1.1, by show InP _ (rs1 _ _ _ (zer s.cols.length)); rw [h.cl]; exact k2.2, by show (rs1 _ _ _ _).length = _; rw [h.cl]; exact k2.1, bin, bl⟩
theorem A1.same {fs : List (String × D)} {s s' : AS} (h : A1 fs s) (e : (s'.c, s'.T, s'.b, s'.steps, s'.layer, s'.round, s'.wide, s'.gates, s'.near, s'.cols, s'.first, s'.second) = (s.c, s.T, s.b, s.steps, s.layer, s.round, s.wide, s.gates, s.near, s.cols, s.first, s.second)) : A1 fs s' := by
  simp only [Prod.mk.injEq] at e
  obtain ⟨e1, e2, e3, e4, e5, e6, e7, e8, e9, e10, e11, e12⟩ := e
  exact ⟨⟨h.k, h.pl, by rw [e1]; exact h.circuit, by rw [e2]; exact h.tables, by rw [e3]; exact h.bits, by rw [e1]; exact h.p, by rw [e4]; exact h.steps⟩, by rw [e5]; exact h.layer, by rw [e6]; exact h.round, by rw [e7]; exact h.wide, by rw [e8]; exact h.gates, by rw [e9]; exact h.near, by rw [e10]; exact h.columns, by rw [e11]; exact h.first, by rw [e12]; exact h.second⟩
theorem V1.same {s s' : AS} (h : V1 s) (e : (s'.c, s'.b, s'.round, s'.wide, s'.gates, s'.near, s'.cols, s'.first, s'.second) = (s.c, s.b, s.round, s.wide, s.gates, s.near, s.cols, s.first, s.second)) : V1 s' := by
  simp only [Prod.mk.injEq] at e
  obtain ⟨e1, e3, e6, e7, e8, e9, e10, e11, e12⟩ := e
  exact ⟨by rw [e1]; exact h.pm, by rw [e3]; exact h.b3, by rw [e7]; exact h.w3, by rw [e8, e1, e7]; exact h.g, by rw [e8]; exact h.gl, by rw [e1, e9]; exact h.near, by rw [e9, e3, e6]; exact h.nl, by rw [e10, e7]; exact h.cl, by rw [e10, e1, e3, e6]; exact h.col, by rw [e1, e11]; exact h.f, by rw [e11, e6, e3, e7]; exact h.fl, by rw [e1, e12]; exact h.sn, by rw [e12, e6, e3, e7]; exact h.sl⟩
theorem lk_ne {f g : String} {v : D} {fs : List (String × D)} (h : f ≠ g) : (putD f v fs).lookup g = fs.lookup g := by rw [look_put, if_neg h]
theorem lk_eq {f : String} {v : D} {fs : List (String × D)} : (putD f v fs).lookup f = some v := by rw [look_put, if_pos rfl]
theorem A1.putE {fs : List (String × D)} {s : AS} (h : A1 fs s) {f : String} {v : D} (hf : f ∈ ["share", "below", "factors", "rest", "left"]) (hv : plD v = true) : A1 (putD f v fs) s := by
  have ne : ∀ g, g ∉ ["share", "below", "factors", "rest", "left"] → f ≠ g := fun g hg e => hg (by rw [← e]; exact hf)
  have hk : f ∈ ansKeys := by
    simp only [List.mem_cons, List.not_mem_nil, or_false] at hf
    rcases hf with rfl | rfl | rfl | rfl | rfl <;> decide
  exact ⟨⟨h.k.put hk, h.pl.put hv, (lk_ne (ne _ (by decide))).trans h.circuit, (lk_ne (ne _ (by decide))).trans h.tables, (lk_ne (ne _ (by decide))).trans h.bits, (lk_ne (ne _ (by decide))).trans h.p, (lk_ne (ne _ (by decide))).trans h.steps⟩,
    (lk_ne (ne _ (by decide))).trans h.layer, (lk_ne (ne _ (by decide))).trans h.round, (lk_ne (ne _ (by decide))).trans h.wide, (lk_ne (ne _ (by decide))).trans h.gates, (lk_ne (ne _ (by decide))).trans h.near, (lk_ne (ne _ (by decide))).trans h.columns, (lk_ne (ne _ (by decide))).trans h.first, (lk_ne (ne _ (by decide))).trans h.second⟩
def C_Answerer_turn : DC := fun ds m Φ _ => ∃ (k : Nat) (fs : List (String × D)) (s : AS), ds = [.hnd k] ∧ m.M[k]? = some (.ins "Answerer" fs) ∧ A1 fs s ∧ V1 s ∧ (s.b < s.round → A2 fs s ∧ V2 s (leftP s)) ∧
  ∀ fs', A1 fs' (turnF s) → V1 (turnF s) → (s.b ≤ s.round → A2 fs' (turnF s) ∧ V2 (turnF s) (leftL (turnF s))) → Φ .non ⟨m.M.set k (.ins "Answerer" fs'), m.s⟩
def W_Answerer_turn (fl : String → List String) : DS := dSeq (dIf (dB (dOp oEq (dFld (fl "round") "round" (dVar 0)) (dFld (fl "bits") "bits" (dVar 0)))) (dSeq (dSetF (fl "share") "share" (dOp oIx (dFld (fl "near") "near" (dVar 0)) (dC (.int 0))) (dVar 0)) (dSeq (dSetF (fl "below") "below" (dLc (diList (dFld (fl "columns") "columns" (dVar 0))) (dgName 1) (dYes) (dOp oIx (dVar 1) (dC (.int 0))) [1]) (dVar 0)) (dSeq (dAsg (dMeth [("Answerer", C_Answerer_first_tables)] "first_tables" 0 (dVar 0) dNil) (dgTupG 2 (dgsCons (dgFld (fl "factors") "factors" (dVar 0)) (dgsCons (dgFld (fl "rest") "rest" (dVar 0)) (dgsNil))))) (dSetF (fl "left") "left" (dCB cList (dCons (dFld (fl "below") "below" (dVar 0)) (dNil))) (dVar 0))))) (dNext)) (dIf (dB (dOp oEq (dFld (fl "round") "round" (dVar 0)) (dOp oAdd (dFld (fl "bits") "bits" (dVar 0)) (dFld (fl "wide") "wide" (dVar 0))))) (dSeq (dAsg (dMeth [("Answerer", C_Answerer_second_tables)] "second_tables" 1 (dVar 0) (dCons (dOp oIx (dFld (fl "left") "left" (dVar 0)) (dC (.int 0))) (dNil))) (dgTupG 2 (dgsCons (dgFld (fl "factors") "factors" (dVar 0)) (dgsCons (dgFld (fl "rest") "rest" (dVar 0)) (dgsNil))))) (dSetF (fl "left") "left" (dCB cList (dCons (dFld (fl "below") "below" (dVar 0)) (dNil))) (dVar 0))) (dNext))
theorem rd_Answerer_turn {fl : String → List String} (F : Fl_Answerer fl) : ∀ ds m Φ Ψ, ds.length = 1 → C_Answerer_turn ds m Φ Ψ → W_Answerer_turn fl { nx := fun _ m' => Φ .non m', rt := Φ } (fun _ => Ψ) (ds.map some ++ List.replicate (2 - ds.length) none) m := by
  intro ds m Φ Ψ _ h
  obtain ⟨k, fs, s, rfl, ob, a1, v1, h2, q⟩ := h
  have hk := getLt ob
  have obL := obApp ob
  have hp := v1.pm
  have hp1 := hp.1
  have hp2 := hp.2
  have w10 : (2 : Nat) ^ s.wide ≤ 2 ^ 10 := Nat.pow_le_pow_right (by decide) v1.w3
  change W_Answerer_turn fl _ _ [some (.hnd k), none] m
  unfold W_Answerer_turn
  refine dSeq_k fun k1 h1 => ?_
  obtain ⟨r1, r2, r3, r4⟩ := turn1_r s
  have go : ∀ fs1 v, A1 fs1 (turn1 s) → (s.b ≤ s.round → A2 fs1 (turn1 s) ∧ V2 (turn1 s) (leftP s)) → k1 [some (.hnd k), v] ⟨m.M.set k (.ins "Answerer" fs1), m.s⟩ := by
    intro fs1 v a1 h2
    have v1' := turn1_v1 v1
    obtain ⟨q1, q2, q3, q4⟩ := turn2_r (turn1 s)
    have tf : turnF s = turn2 (turn1 s) := rfl
    rw [tf] at q
    generalize hS : turn1 s = s1 at *
    have ob : (m.M.set k (.ins "Answerer" fs1))[k]? = some (.ins "Answerer" fs1) := List.getElem?_set_self hk
    have obL := obApp ob
    subst h1
    walk_at "an"
    refine ⟨_, a1.round, ?_⟩
    walk_at "an"
    refine ⟨_, a1.bits, _, a1.wide, ?_⟩
    walk_at "dx"
    by_cases e : s1.round = s1.b + s1.wide
    · rw [if_pos (by omega)]
      obtain ⟨a2, v2⟩ := h2 (by omega)
      have fle := v1'.fl
      have le : s1.left.length = 1 := by
        rw [v2.leftl]; unfold leftP
        rw [if_pos (by omega), show s.wide - (s.round - s.b) = 0 by omega]
      have l0 := v2.left.gN (i := 0) (by omega)
      refine ⟨notkey a1.k (by decide), _, a2.left, .int (gi s1.left 0), atI_gi (by decide) (by omega), ?_⟩
      refine ⟨k, fs1, s1.c.p, s1.steps, s1.gates, s1.below, s1.first, gi s1.left 0, rfl, a1.first, by rw [fle]; have := v1'.w3; omega, by rw [v2.bl, fle]; congr 1; omega, l0.1, l0.2, ob, a1.k, a1.pl, a1.p, a1.steps, a1.gates, a2.below, v1'.pm, fun g hg => by rw [v2.bl]; exact v1'.g g hg, v2.below, by rw [v2.bl, r3]; omega, ?_⟩
      rw [List.set_set]
      walk_at "dx"
      walk_at "an"
      have K1 := a1.k.put (f := "steps") (v := .int (s1.steps + (s1.gates.length : Nat))) (by decide)
      refine ⟨K1.lt, (K1.put (by decide)).lt, _, a2.below, ?_⟩
      walk_at "dx"
      refine ⟨((K1.put (by decide)).put (by decide)).lt, ?_⟩
      have t2 : turn2 s1 = { s1 with fac := ft2 s1.c.p (pointT s1.first s1.c.p) (gi s1.left 0) s1.gates (zer s1.below.length), rest := rs2 s1.c.p (pointT s1.first s1.c.p) (gi s1.left 0) s1.gates (zer s1.below.length), left := s1.below, steps := s1.steps + (s1.gates.length : Nat) } := if_pos e
      have k1 := foldset_ok v1'.pm.1 (fun g : WG => g.y.toNat) (fun f g => gi f g.y + gi (pointT s1.first s1.c.p) g.x * (g.b + g.c * gi s1.left 0)) s1.gates (zer s1.below.length) (zer_in v1'.pm.1)
      have k2 := foldset_ok v1'.pm.1 (fun g : WG => g.y.toNat) (fun f g => gi f g.y + gi (pointT s1.first s1.c.p) g.x * g.a % s1.c.p * gi s1.left 0) s1.gates (zer s1.below.length) (zer_in v1'.pm.1)
      rw [zer_len, v2.bl] at k1 k2
      have hL : leftL s1 = 2 ^ s1.wide := by
        unfold leftL
        rw [if_neg (by omega), show s1.wide - (s1.round - s1.b - s1.wide) = s1.wide by omega]
      have z1 := (((a1.st (s1.steps + (s1.gates.length : Nat))).putE (f := "factors") (v := .lst ((ft2 s1.c.p (pointT s1.first s1.c.p) (gi s1.left 0) s1.gates (zer s1.below.length)).map D.int)) (by decide) (plD_ints _)).putE (f := "rest") (v := .lst ((rs2 s1.c.p (pointT s1.first s1.c.p) (gi s1.left 0) s1.gates (zer s1.below.length)).map D.int)) (by decide) (plD_ints _)).putE (f := "left") (v := .lst (s1.below.map D.int)) (by decide) (plD_ints _)
      rw [t2] at q
      refine q _ (z1.same rfl) (v1'.same rfl) fun _ => ⟨⟨z1.same rfl, ?_, ?_, ?_, ?_, ?_⟩, ?_⟩
      · rw [lk_ne (by decide), lk_ne (by decide), lk_ne (by decide), lk_ne (by decide)]; exact a2.share
      · rw [lk_ne (by decide), lk_ne (by decide), lk_ne (by decide), lk_ne (by decide)]; exact a2.below
      · rw [lk_ne (by decide), lk_ne (by decide), lk_eq]
      · rw [lk_ne (by decide), lk_eq]
      · rw [lk_eq]
      · refine ⟨v2.share, v2.below, v2.bl, ?_, ?_, ?_, ?_, v2.below, ?_⟩
        · show InP _ (ft2 _ _ _ _ _); rw [v2.bl]; exact k1.2
        · show (ft2 _ _ _ _ _).length = leftL s1; rw [hL, v2.bl]; exact k1.1
        · show InP _ (rs2 _ _ _ _ _); rw [v2.bl]; exact k2.2
        · show (rs2 _ _ _ _ _).length = leftL s1; rw [hL, v2.bl]; exact k2.1
        · show s1.below.length = leftL s1; rw [hL, v2.bl]
    · rw [if_neg (by omega)]
      have t2 : turn2 s1 = s1 := if_neg e
      rw [t2] at q
      refine q fs1 a1 v1' fun h => ?_
      obtain ⟨a2, v2⟩ := h2 h
      refine ⟨a2, ?_⟩
      have : leftP s = leftL s1 := by
        unfold leftP leftL
        rw [r1, r2, r3]
        by_cases z : s.round < s.b + s.wide
        · rw [if_pos (by omega), if_pos z]
        · rw [if_neg (by omega), if_neg z]
      rw [← this]; exact v2
  walk_at "an"
  refine ⟨_, a1.round, _, a1.bits, ?_⟩
  walk_at "dx"
  by_cases e : s.round = s.b
  · rw [if_pos (by omega)]
    have nl := v1.nl
    rw [e, Nat.sub_self, Nat.pow_zero] at nl
    refine ⟨_, a1.near, ?_⟩
    walk_at "dx"
    refine ⟨_, atI_gi (by decide) (by omega), a1.k.lt, _, a1.columns, ?_⟩
    rw [show tabL s.cols = .lst (s.cols.map intL) from rfl]
    walk_at "dx"
    refine lcW_fn (inj := intL) (out := D.int) (fun c => gi c 0) _ s.cols ?_ (fun _ => rfl) (by rw [v1.cl]; show _ ≤ 16777216; omega) ?_
    · intro c hc m2 Θ hΘ
      have z := (v1.col c hc).2
      rw [e, Nat.sub_self, Nat.pow_zero] at z
      unfold intL
      walk_at "dx"
      exact ⟨_, atI_gi (by decide) (by omega), hΘ⟩
    walk_at "an"
    have K1 := a1.k.put (f := "share") (v := .int (gi s.near 0)) (by decide)
    refine ⟨K1.lt, ?_⟩
    walk_at "dx"
    obtain ⟨bin, bl⟩ : InP s.c.p (s.cols.map fun c => gi c 0) ∧ (s.cols.map fun c => gi c 0).length = 2 ^ s.wide := by
      have z := turn1_v2 v1 e
      have e1 : (turn1 s).below = s.cols.map fun c => gi c 0 := by unfold turn1; rw [if_pos e]
      have z1 := z.below
      have z2 := z.bl
      rw [e1] at z1 z2
      rw [r4] at z1; rw [r3] at z2
      exact ⟨z1, z2⟩
    have t1 : turn1 s = { s with share := gi s.near 0, below := s.cols.map fun c => gi c 0, fac := ft1 s.c.p (s.cols.map fun c => gi c 0) s.gates (zer s.cols.length), rest := rs1 s.c.p (s.cols.map fun c => gi c 0) s.gates (zer s.cols.length), left := s.cols.map fun c => gi c 0, steps := s.steps + (s.gates.length : Nat) } := if_pos e
    have tv2 := turn1_v2 v1 e
    have zl : (s.cols.map fun c => gi c 0).length = s.cols.length := List.length_map ..
    rw [← zl] at t1
    generalize hB : (s.cols.map fun c => gi c 0) = B at *
    have a1b := (a1.putE (f := "share") (v := .int (gi s.near 0)) (by decide) rfl).putE (f := "below") (v := .lst (B.map D.int)) (by decide) (plD_ints B)
    have ob1 : (m.M.set k (.ins "Answerer" (putD "below" (.lst (B.map D.int)) (putD "share" (.int (gi s.near 0)) fs))))[k]? = some (.ins "Answerer" (putD "below" (.lst (B.map D.int)) (putD "share" (.int (gi s.near 0)) fs))) := List.getElem?_set_self hk
    refine ⟨notkey a1.k (by decide), k, _, s.c.p, s.steps, s.gates, B, rfl, ob1, a1b.k, a1b.pl, a1b.p, a1b.steps, a1b.gates, lk_eq, hp, fun g hg => by rw [bl]; exact v1.g g hg, bin, by rw [bl]; omega, ?_⟩
    rw [List.set_set]
    walk_at "dx"
    walk_at "an"
    have K3 := a1b.k.put (f := "steps") (v := .int (s.steps + (s.gates.length : Nat))) (by decide)
    refine ⟨K3.lt, (K3.put (by decide)).lt, ?_⟩
    walk_at "dx"
    refine ⟨((K3.put (by decide)).put (by decide)).lt, ?_⟩
    have z1 := (((a1b.st (s.steps + (s.gates.length : Nat))).putE (f := "factors") (v := .lst ((ft1 s.c.p B s.gates (zer B.length)).map D.int)) (by decide) (plD_ints _)).putE (f := "rest") (v := .lst ((rs1 s.c.p B s.gates (zer B.length)).map D.int)) (by decide) (plD_ints _)).putE (f := "left") (v := .lst (B.map D.int)) (by decide) (plD_ints _)
    refine go _ none (by rw [t1]; exact z1.same rfl) fun _ => ⟨by
      rw [t1]
      refine ⟨z1.same rfl, ?_, ?_, ?_, ?_, ?_⟩
      · rw [lk_ne (by decide), lk_ne (by decide), lk_ne (by decide), lk_ne (by decide), lk_ne (by decide), lk_eq]
      · rw [lk_ne (by decide), lk_ne (by decide), lk_ne (by decide), lk_ne (by decide), lk_eq]
      · rw [lk_ne (by decide), lk_ne (by decide), lk_eq]
      · rw [lk_ne (by decide), lk_eq]
      · rw [lk_eq], ?_⟩
    have : leftP s = 2 ^ s.wide := by
      unfold leftP
      rw [if_pos (by omega), e, Nat.sub_self, Nat.sub_zero]
    rw [this]
    exact tv2
  · rw [if_neg (by omega)]
    have t1 : turn1 s = s := if_neg e
    rw [t1] at go
    have z := go fs none a1 fun h => h2 (by omega)
    rw [set_self ob] at z
    exact z
end Dl

namespace Dl
open PySem L2
local macro_rules | `(tactic| walk_at "dl") => `(tactic| try simp only [dSeq, dSet, dRaise_one, dRaise_two, dTryAs, dXf, dIsE, List.lookup_cons, List.lookup_nil, beq_self_eq_true, Bool.false_eq_true, if_false, dOp, dUn, dVar, dC, dCB, dCons, dNil, dRet, dRetN, dIf, dB, dAnd, dOr, dNot, dDrop, dNext, dMethL, dSetIx, dAndV, dOrV, dNotV, dBlV, dIfE, dLst, dTup, dLstM, dCall, dChain, dAsg, dgName, dgTup, bindD, asT, dFor, diList, diRng1, diRng2, diEnumerate, diZip, diReversed, dLc, dLcM, dYes, wipeD, dAug, dSl, dSlT, dpN, dpS,
  oI, oI0, oB0, oAdd, oNeg, oEq, oNe, oIx, oIsN, oNotN, isNon, oShl, oApp, oPop, oPopAt, cLen, cInt, cAbs, cSum, cMax2, cMin2, cList, cIsi, tyD, asL, asF, asK, moL_lst, ModC, DivC,
  List.getElem?_cons_zero, List.getElem?_cons_succ, List.set_cons_zero, List.set_cons_succ, List.getElem?_nil, List.length_cons, List.length_nil, List.length_map, Option.map_some, Option.bind_some, Option.isSome_some, if_true, true_and, and_true, MM.push])
local macro_rules | `(tactic| walk_at "dx") => `(tactic| try simp only [eq_self_iff_true, okE_int, okE_bl, okE_non, eqD_int, eqD_bl, kq_NoneType_int, kq_NoneType_bool, kq_NoneType_list, kq_NoneType_tuple, kq_NoneType_str, kq_bool_int, kq_bool_bool, kq_bool_list, kq_bool_tuple, kq_bool_str, kq_int_int, kq_int_bool, kq_int_list, kq_int_tuple, kq_int_str, kq_str_int, kq_str_bool, kq_str_list, kq_str_tuple, kq_str_str, kq_list_int, kq_list_bool, kq_list_list, kq_list_tuple, kq_list_str, kq_tuple_int, kq_tuple_bool, kq_tuple_list, kq_tuple_tuple, kq_tuple_str, oInL, oIsB, oNotB, oEqH, oNeH, oShr, oExt, cMaxL, cMinL, cAny, cAll, cTuple, cListM, dRevL, dFld, dSetF, dAugF, dMeth, dMake, moI_ins, app_len, set_app, List.contains_cons, List.contains_nil, Bool.true_or,  Bool.true_eq_false, decide_true, not_true_eq_false, not_false_eq_true, Bool.not_true, Bool.not_false, decide_eq_true_eq, Bool.not_eq_true', decide_eq_false_iff_not, dSeq, dSet, dRaise_one, dRaise_two, dTryAs, dXf, dIsE, List.lookup_cons, List.lookup_nil, beq_self_eq_true, Bool.false_eq_true, if_false, dOp, dUn, dVar, dC, dCB, dCons, dNil, dRet, dRetN, dIf, dB, dAnd, dOr, dNot, dDrop, dNext, dMethL, dSetIx, dAndV, dOrV, dNotV, dBlV, dIfE, dLst, dTup, dLstM, dCall, dChain, dAsg, dgName, dgTup, bindD, asT, dFor, diList, diRng1, diRng2, diEnumerate, diZip, diReversed, dLc, dLcM, dYes, wipeD, dAug, dSl, dSlT, dpN, dpS,
  oI, oI0, oB0, oAdd, oNeg, oEq, oNe, oIx, oIsN, oNotN, isNon, oShl, oApp, oPop, oPopAt, cLen, cInt, cAbs, cSum, cMax2, cMin2, cList, cIsi, tyD, asL, asF, asK, moL_lst, ModC, DivC,
  List.getElem?_cons_zero, List.getElem?_cons_succ, List.set_cons_zero, List.set_cons_succ, List.getElem?_nil, List.length_cons, List.length_nil, List.length_map, Option.map_some, Option.bind_some, Option.isSome_some, if_true, true_and, and_true, MM.push])
local macro_rules | `(tactic| walk_at "lim") => `(tactic| repeat (first | (refine ⟨by decide, ?_⟩) | (refine ⟨by (try simp only [List.length_map, List.length_dropLast, List.length_append, List.length_cons, List.length_nil, List.length_replicate, List.length_take, List.length_drop, List.length_range]); (show _ ≤ 16777216); omega, ?_⟩)))

set_option hygiene false in
local macro_rules | `(tactic| walk_at "stp") => `(tactic| (refine dSeq_k fun k1 h1 => ?_; walk_at "dx"))
set_option hygiene false in
local macro_rules | `(tactic| walk_at "nxt") => `(tactic| (subst h1; (try dsimp only); refine dSeq_k fun k1 h1 => ?_; walk_at "dx"))
set_option hygiene false in
local macro_rules | `(tactic| walk_at "lst") => `(tactic| (subst h1; (try dsimp only); walk_at "dx"))
set_option hygiene false in
local macro_rules | `(tactic| walk_at "nxt2") => `(tactic| (subst h2; (try dsimp only); refine dSeq_k fun k2 h2 => ?_; walk_at "dx"))
set_option hygiene false in
local macro_rules | `(tactic| walk_at "stp2") => `(tactic| (refine dSeq_k fun k2 h2 => ?_; walk_at "dx"))
set_option hygiene false in
local macro_rules | `(tactic| walk_at "lst2") => `(tactic| (subst h2; (try dsimp only); walk_at "dx"))
set_option hygiene false in
local macro_rules | `(tactic| walk_at "an") => `(tactic| (walk_at "dx"; (try simp only [dgTupG, dgsCons, dgsNil, dgFld, asT, dVar, List.length_cons, List.length_nil, List.getElem?_cons_zero, ob, obL, hk, moI_ins, Fl_Answerer.circuit, Fl_Answerer.tables, Fl_Answerer.bits, Fl_Answerer.p, Fl_Answerer.steps, Fl_Answerer.layer, Fl_Answerer.round, Fl_Answerer.wide, Fl_Answerer.gates, Fl_Answerer.near, Fl_Answerer.columns, Fl_Answerer.first, Fl_Answerer.second, Fl_Answerer.share, Fl_Answerer.below, Fl_Answerer.factors, Fl_Answerer.rest, Fl_Answerer.left,
  List.getElem?_set_self, List.set_set, List.length_set, look_put, String.reduceEq, reduceIte, exists_eq_left', Option.some.injEq, true_and, and_true])))

/-- the state that stands at k, as the methods need it -/
structure AnsOK (fs : List (String × D)) (s : AS) : Prop where
  a1 : A1 fs s
  v1 : V1 s
  two : s.b ≤ s.round → A2 fs s ∧ V2 s (leftL s)
theorem plD_tab (t : List (List Int)) : plD (.lst (t.map intL)) = true := plDs_of fun d hd => by
  obtain ⟨x, _, rfl⟩ := List.mem_map.mp hd
  exact plD_ints x
def C_Answerer_throw : DC := fun ds m Φ _ => ∃ (k : Nat) (fs : List (String × D)) (s : AS) (z : Int), ds = [.hnd k, .int z] ∧ m.M[k]? = some (.ins "Answerer" fs) ∧ AnsOK fs s ∧ 0 ≤ z ∧ z < s.c.p ∧
  ∀ fs', AnsOK fs' (throwF s z) → Φ .non ⟨m.M.set k (.ins "Answerer" fs'), m.s⟩
def W_Answerer_throw (fl : String → List String) : DS := dSeq (dSet 2 (dFld (fl "p") "p" (dVar 0))) (dSeq (dIf (dB (dOp oLt (dFld (fl "round") "round" (dVar 0)) (dFld (fl "bits") "bits" (dVar 0)))) (dSeq (dSetF (fl "near") "near" (dCall 3 C_fold (dCons (dFld (fl "near") "near" (dVar 0)) (dCons (dVar 1) (dCons (dVar 2) (dNil))))) (dVar 0)) (dSetF (fl "columns") "columns" (dLc (diList (dFld (fl "columns") "columns" (dVar 0))) (dgName 3) (dYes) (dCall 3 C_fold (dCons (dVar 3) (dCons (dVar 1) (dCons (dVar 2) (dNil))))) [3]) (dVar 0))) (dIf (dB (dOp oLt (dFld (fl "round") "round" (dVar 0)) (dOp oAdd (dFld (fl "bits") "bits" (dVar 0)) (dOp oMul (dC (.int 2)) (dFld (fl "wide") "wide" (dVar 0)))))) (dSeq (dSetF (fl "factors") "factors" (dCall 3 C_fold (dCons (dFld (fl "factors") "factors" (dVar 0)) (dCons (dVar 1) (dCons (dVar 2) (dNil))))) (dVar 0)) (dSeq (dSetF (fl "rest") "rest" (dCall 3 C_fold (dCons (dFld (fl "rest") "rest" (dVar 0)) (dCons (dVar 1) (dCons (dVar 2) (dNil))))) (dVar 0)) (dSeq (dSetF (fl "left") "left" (dCall 3 C_fold (dCons (dFld (fl "left") "left" (dVar 0)) (dCons (dVar 1) (dCons (dVar 2) (dNil))))) (dVar 0)) (dIf (dB (dOp oLt (dFld (fl "round") "round" (dVar 0)) (dOp oAdd (dFld (fl "bits") "bits" (dVar 0)) (dFld (fl "wide") "wide" (dVar 0))))) (dSetF (fl "first") "first" (dOp oAdd (dFld (fl "first") "first" (dVar 0)) (dLst (dCons (dVar 1) (dNil)))) (dVar 0)) (dSetF (fl "second") "second" (dOp oAdd (dFld (fl "second") "second" (dVar 0)) (dLst (dCons (dVar 1) (dNil)))) (dVar 0)))))) (dNext))) (dSeq (dAugF (fl "round") "round" (fun i j => i + j) (dC (.int 1)) (dVar 0)) (dDrop (dMeth [("Answerer", C_Answerer_turn)] "turn" 0 (dVar 0) dNil))))
theorem rd_Answerer_throw {fl : String → List String} (F : Fl_Answerer fl) : ∀ ds m Φ Ψ, ds.length = 2 → C_Answerer_throw ds m Φ Ψ → W_Answerer_throw fl { nx := fun _ m' => Φ .non m', rt := Φ } (fun _ => Ψ) (ds.map some ++ List.replicate (4 - ds.length) none) m := by
  intro ds m Φ Ψ _ h
  obtain ⟨k, fs, s, z, rfl, ob, ok, z0, z1, q⟩ := h
  have a1 := ok.a1
  have v1 := ok.v1
  have hk := getLt ob
  have obL := obApp ob
  have hp := v1.pm
  have hp1 := hp.1
  have hp2 := hp.2
  have w10 : (2 : Nat) ^ s.wide ≤ 2 ^ 10 := Nat.pow_le_pow_right (by decide) v1.w3
  have b10 : (2 : Nat) ^ (s.b - s.round) ≤ 2 ^ 10 := Nat.pow_le_pow_right (by decide) (by have := v1.b3; omega)
  change W_Answerer_throw fl _ _ [some (.hnd k), some (.int z), none, none] m
  unfold W_Answerer_throw
  walk_at "stp"
  walk_at "an"
  refine ⟨_, a1.p, ?_⟩
  subst h1
  refine dSeq_k fun k1 h1 => ?_
  have go : ∀ fs2 v3, A1 fs2 (midF s z) → V1 { midF s z with round := s.round + 1 } → (s.b ≤ s.round → A2 fs2 (midF s z) ∧ V2 { midF s z with round := s.round + 1 } (leftP { midF s z with round := s.round + 1 })) → k1 [some (.hnd k), some (.int z), some (.int s.c.p), v3] ⟨m.M.set k (.ins "Answerer" fs2), m.s⟩ := by
    intro fs2 v3 b1 w1 b2
    have mr : (midF s z).round = s.round ∧ (midF s z).b = s.b := by unfold midF; split; exact ⟨rfl, rfl⟩; split <;> exact ⟨rfl, rfl⟩
    have ob : (m.M.set k (.ins "Answerer" fs2))[k]? = some (.ins "Answerer" fs2) := List.getElem?_set_self hk
    have obL := obApp ob
    walk_at "nxt"
    walk_at "an"
    refine ⟨_, b1.round, ?_⟩
    walk_at "an"
    refine ⟨b1.k.lt, ?_⟩
    walk_at "lst"
    walk_at "an"
    have ob3 : (m.M.set k (.ins "Answerer" (putD "round" (.int (((midF s z).round : Nat) + 1)) fs2)))[k]? = some (.ins "Answerer" (putD "round" (.int (((midF s z).round : Nat) + 1)) fs2)) := List.getElem?_set_self hk
    have c1 : A1 (putD "round" (.int (((midF s z).round : Nat) + 1)) fs2) { midF s z with round := s.round + 1 } :=
      ⟨⟨b1.k.put (by decide), b1.pl.put rfl, (lk_ne (by decide)).trans b1.circuit, (lk_ne (by decide)).trans b1.tables, (lk_ne (by decide)).trans b1.bits, (lk_ne (by decide)).trans b1.p, (lk_ne (by decide)).trans b1.steps⟩,
        (lk_ne (by decide)).trans b1.layer, by rw [lk_eq, mr.1]; rfl, (lk_ne (by decide)).trans b1.wide, (lk_ne (by decide)).trans b1.gates, (lk_ne (by decide)).trans b1.near, (lk_ne (by decide)).trans b1.columns, (lk_ne (by decide)).trans b1.first, (lk_ne (by decide)).trans b1.second⟩
    refine ⟨notkey b1.k (by decide), k, _, _, rfl, ob3, c1, w1, fun h => ?_, fun fs' x1 x2 x3 => ?_⟩
    · have h : s.b < s.round + 1 := by have := mr.2; have h : (midF s z).b < s.round + 1 := h; omega
      obtain ⟨y1, y2⟩ := b2 (by omega)
      exact ⟨⟨c1, (lk_ne (by decide)).trans y1.share, (lk_ne (by decide)).trans y1.below, (lk_ne (by decide)).trans y1.factors, (lk_ne (by decide)).trans y1.rest, (lk_ne (by decide)).trans y1.left⟩, y2⟩
    · rw [List.set_set]
      have tr := turnF_r { midF s z with round := s.round + 1 }
      exact q fs' ⟨x1, x2, fun h => x3 (by
        have e1 : (throwF s z).b = (midF s z).b := tr.2.1
        have e2 : (throwF s z).round = s.round + 1 := tr.1
        show (midF s z).b ≤ s.round + 1
        omega)⟩
  walk_at "an"
  refine ⟨_, a1.round, _, a1.bits, ?_⟩
  walk_at "dx"
  by_cases hb : s.round < s.b
  · rw [if_pos (by omega)]
    walk_at "an"
    have em : midF s z = { s with near := foldS s.c.p s.near z, cols := s.cols.map fun c => foldS s.c.p c z } := if_pos hb
    refine ⟨_, a1.near, s.near, z, s.c.p, rfl, hp, v1.near, by rw [v1.nl]; omega, ?_⟩
    walk_at "an"
    refine ⟨a1.k.lt, _, a1.columns, ?_⟩
    rw [show tabL s.cols = .lst (s.cols.map intL) from rfl]
    walk_at "dx"
    refine lcW_fn (inj := intL) (out := intL) (fun c => foldS s.c.p c z) _ s.cols ?_ (fun y => clD_pl _ (plD_ints y)) (by rw [v1.cl]; show _ ≤ 16777216; omega) ?_
    · intro c hc m2 Θ hΘ
      have y := v1.col c hc
      unfold intL at *
      walk_at "dx"
      exact ⟨c, z, s.c.p, rfl, hp, y.1, by rw [y.2]; omega, hΘ⟩
    walk_at "an"
    refine ⟨(a1.k.put (by decide)).lt, ?_⟩
    have hh : 2 ^ (s.b - s.round) / 2 = 2 ^ (s.b - (s.round + 1)) := by rw [two_half (by omega)]; congr 1
    have fle := v1.fl
    have sle := v1.sl
    refine go _ none ?_ ?_ fun h => by omega
    · rw [em]
      exact ⟨⟨(a1.k.put (by decide)).put (by decide), (a1.pl.put (plD_ints _)).put (plD_tab _), (lk_ne (by decide)).trans ((lk_ne (by decide)).trans a1.circuit), (lk_ne (by decide)).trans ((lk_ne (by decide)).trans a1.tables), (lk_ne (by decide)).trans ((lk_ne (by decide)).trans a1.bits), (lk_ne (by decide)).trans ((lk_ne (by decide)).trans a1.p), (lk_ne (by decide)).trans ((lk_ne (by decide)).trans a1.steps)⟩,
        (lk_ne (by decide)).trans ((lk_ne (by decide)).trans a1.layer), (lk_ne (by decide)).trans ((lk_ne (by decide)).trans a1.round), (lk_ne (by decide)).trans ((lk_ne (by decide)).trans a1.wide), (lk_ne (by decide)).trans ((lk_ne (by decide)).trans a1.gates), (lk_ne (by decide)).trans lk_eq, lk_eq, (lk_ne (by decide)).trans ((lk_ne (by decide)).trans a1.first), (lk_ne (by decide)).trans ((lk_ne (by decide)).trans a1.second)⟩
    · rw [em]
      refine ⟨hp, v1.b3, v1.w3, v1.g, v1.gl, foldS_in hp1, ?_, ?_, fun c hc => ?_, v1.f, ?_, v1.sn, ?_⟩
      · show (foldS _ _ _).length = _
        rw [foldS_len, v1.nl]; exact hh
      · show (s.cols.map _).length = _
        rw [List.length_map, v1.cl]
      · obtain ⟨c0, h0, rfl⟩ := List.mem_map.mp hc
        exact ⟨foldS_in hp1, by rw [foldS_len, (v1.col c0 h0).2]; exact hh⟩
      · show s.first.length = min (s.round + 1 - s.b) s.wide
        omega
      · show s.second.length = min (s.round + 1 - s.b - s.wide) s.wide
        omega
  · rw [if_neg (by omega)]
    obtain ⟨a2, v2⟩ := ok.two (by omega)
    have nl := v1.nl
    have fle := v1.fl
    have sle := v1.sl
    have hn0 : s.b - (s.round + 1) = s.b - s.round := by omega
    walk_at "an"
    refine ⟨_, a1.round, _, a1.bits, _, a1.wide, mulL (by decide) (by decide), ?_⟩
    walk_at "dx"
    by_cases hw : s.round < s.b + 2 * s.wide
    · rw [if_pos (by omega)]
      have hL1 : leftL s / 2 = leftP { midF s z with round := s.round + 1 } := by
        have e1 : leftP { midF s z with round := s.round + 1 } = if s.round + 1 ≤ s.b + s.wide then 2 ^ (s.wide - (s.round + 1 - s.b)) else 2 ^ (s.wide - (s.round + 1 - s.b - s.wide)) := by
          unfold leftP midF
          rw [if_neg hb, if_pos hw]
        rw [e1]
        unfold leftL
        by_cases y : s.round < s.b + s.wide
        · rw [if_pos y, if_pos (by omega), two_half (by omega)]; congr 1; omega
        · rw [if_neg y, if_neg (by omega), two_half (by omega)]; congr 1; omega
      have l1000 : leftL s ≤ 2 ^ 10 := by
        have := v1.w3
        unfold leftL
        split <;> exact Nat.pow_le_pow_right (by decide) (by omega)
      walk_at "an"
      refine ⟨_, a2.factors, s.fac, z, s.c.p, rfl, hp, v2.fac, by rw [v2.facl]; omega, ?_⟩
      walk_at "an"
      refine ⟨a1.k.lt, _, a2.rest, s.rest, z, s.c.p, rfl, hp, v2.rest, by rw [v2.restl]; omega, ?_⟩
      walk_at "an"
      refine ⟨(a1.k.put (by decide)).lt, _, a2.left, s.left, z, s.c.p, rfl, hp, v2.left, by rw [v2.leftl]; omega, ?_⟩
      walk_at "an"
      refine ⟨((a1.k.put (by decide)).put (by decide)).lt, _, a1.round, _, a1.bits, _, a1.wide, ?_⟩
      walk_at "dx"
      have em : midF s z = { s with fac := foldS s.c.p s.fac z, rest := foldS s.c.p s.rest z, left := foldS s.c.p s.left z, first := if s.round < s.b + s.wide then s.first ++ [z] else s.first, second := if s.round < s.b + s.wide then s.second else s.second ++ [z] } := by
        unfold midF; rw [if_neg hb, if_pos hw]
      have K3 := ((a1.k.put (f := "factors") (v := .lst ((foldS s.c.p s.fac z).map D.int)) (by decide)).put (f := "rest") (v := .lst ((foldS s.c.p s.rest z).map D.int)) (by decide)).put (f := "left") (v := .lst ((foldS s.c.p s.left z).map D.int)) (by decide)
      have b1 := ((a1.putE (f := "factors") (v := .lst ((foldS s.c.p s.fac z).map D.int)) (by decide) (plD_ints _)).putE (f := "rest") (v := .lst ((foldS s.c.p s.rest z).map D.int)) (by decide) (plD_ints _)).putE (f := "left") (v := .lst ((foldS s.c.p s.left z).map D.int)) (by decide) (plD_ints _)
      have hshare : (putD "left" (.lst ((foldS s.c.p s.left z).map D.int)) (putD "rest" (.lst ((foldS s.c.p s.rest z).map D.int)) (putD "factors" (.lst ((foldS s.c.p s.fac z).map D.int)) fs))).lookup "share" = some (.int s.share) := by
        rw [lk_ne (by decide), lk_ne (by decide), lk_ne (by decide)]; exact a2.share
      have hbelow : (putD "left" (.lst ((foldS s.c.p s.left z).map D.int)) (putD "rest" (.lst ((foldS s.c.p s.rest z).map D.int)) (putD "factors" (.lst ((foldS s.c.p s.fac z).map D.int)) fs))).lookup "below" = some (.lst (s.below.map D.int)) := by
        rw [lk_ne (by decide), lk_ne (by decide), lk_ne (by decide)]; exact a2.below
      have hfac : (putD "left" (.lst ((foldS s.c.p s.left z).map D.int)) (putD "rest" (.lst ((foldS s.c.p s.rest z).map D.int)) (putD "factors" (.lst ((foldS s.c.p s.fac z).map D.int)) fs))).lookup "factors" = some (.lst ((foldS s.c.p s.fac z).map D.int)) := by
        rw [lk_ne (by decide), lk_ne (by decide), lk_eq]
      have hrest : (putD "left" (.lst ((foldS s.c.p s.left z).map D.int)) (putD "rest" (.lst ((foldS s.c.p s.rest z).map D.int)) (putD "factors" (.lst ((foldS s.c.p s.fac z).map D.int)) fs))).lookup "rest" = some (.lst ((foldS s.c.p s.rest z).map D.int)) := by
        rw [lk_ne (by decide), lk_eq]
      have hleft : (putD "left" (.lst ((foldS s.c.p s.left z).map D.int)) (putD "rest" (.lst ((foldS s.c.p s.rest z).map D.int)) (putD "factors" (.lst ((foldS s.c.p s.fac z).map D.int)) fs))).lookup "left" = some (.lst ((foldS s.c.p s.left z).map D.int)) := lk_eq
      generalize hF : putD "left" (.lst ((foldS s.c.p s.left z).map D.int)) (putD "rest" (.lst ((foldS s.c.p s.rest z).map D.int)) (putD "factors" (.lst ((foldS s.c.p s.fac z).map D.int)) fs)) = fs3 at *
      have zin : ∀ xs : List Int, InP s.c.p xs → InP s.c.p (xs ++ [z]) := fun xs h x hx => by
        rcases List.mem_append.mp hx with y | y
        · exact h x y
        · rw [List.mem_singleton.mp y]; exact ⟨z0, z1⟩
      have wide3 := v1.w3
      have V2' : V2 { midF s z with round := s.round + 1 } (leftP { midF s z with round := s.round + 1 }) := by
        rw [← hL1]
        rw [em]
        refine ⟨v2.share, v2.below, v2.bl, foldS_in hp1, ?_, foldS_in hp1, ?_, foldS_in hp1, ?_⟩
        · show (foldS _ _ _).length = _
          rw [foldS_len, v2.facl]
        · show (foldS _ _ _).length = _
          rw [foldS_len, v2.restl]
        · show (foldS _ _ _).length = _
          rw [foldS_len, v2.leftl]
      have V1a : (∀ f' s', f' = (if s.round < s.b + s.wide then s.first ++ [z] else s.first) → s' = (if s.round < s.b + s.wide then s.second else s.second ++ [z]) → InP s.c.p f' ∧ f'.length = min (s.round + 1 - s.b) s.wide ∧ InP s.c.p s' ∧ s'.length = min (s.round + 1 - s.b - s.wide) s.wide) := by
        rintro f' s' rfl rfl
        by_cases y : s.round < s.b + s.wide
        · rw [if_pos y, if_pos y]
          refine ⟨zin _ v1.f, ?_, v1.sn, by omega⟩
          rw [List.length_append]; show s.first.length + 1 = _; omega
        · rw [if_neg y, if_neg y]
          refine ⟨v1.f, by omega, zin _ v1.sn, ?_⟩
          rw [List.length_append]; show s.second.length + 1 = _; omega
      have V1' : V1 { midF s z with round := s.round + 1 } := by
        obtain ⟨q1, q2, q3, q4⟩ := V1a _ _ rfl rfl
        rw [em]
        exact ⟨hp, v1.b3, v1.w3, v1.g, v1.gl, v1.near, by show s.near.length = 2 ^ (s.b - (s.round + 1)); rw [nl, hn0], v1.cl, fun c hc => ⟨(v1.col c hc).1, by show c.length = 2 ^ (s.b - (s.round + 1)); rw [(v1.col c hc).2, hn0]⟩, q1, q2, q3, q4⟩
      have obF : (m.M.set k (.ins "Answerer" fs3))[k]? = some (.ins "Answerer" fs3) := List.getElem?_set_self hk
      by_cases y : s.round < s.b + s.wide
      · rw [if_pos (by omega)]
        rw [if_pos y, if_pos y] at em
        walk_at "an"
        refine ⟨_, b1.first, by decide, ?_⟩
        walk_at "dx"
        refine ⟨by show s.first.length + (0 + 1) ≤ 16777216; omega, ?_⟩
        walk_at "an"
        refine ⟨b1.k.lt, ?_⟩
        rw [show List.map D.int s.first ++ [D.int z] = (s.first ++ [z]).map D.int by rw [List.map_append]; rfl]
        have c1 : A1 (putD "first" (.lst ((s.first ++ [z]).map D.int)) fs3) (midF s z) := by
          rw [em]
          exact ⟨⟨b1.k.put (by decide), b1.pl.put (plD_ints _), (lk_ne (by decide)).trans b1.circuit, (lk_ne (by decide)).trans b1.tables, (lk_ne (by decide)).trans b1.bits, (lk_ne (by decide)).trans b1.p, (lk_ne (by decide)).trans b1.steps⟩,
            (lk_ne (by decide)).trans b1.layer, (lk_ne (by decide)).trans b1.round, (lk_ne (by decide)).trans b1.wide, (lk_ne (by decide)).trans b1.gates, (lk_ne (by decide)).trans b1.near, (lk_ne (by decide)).trans b1.columns, lk_eq, (lk_ne (by decide)).trans b1.second⟩
        refine go _ none c1 V1' fun _ => ⟨⟨c1, ?_, ?_, ?_, ?_, ?_⟩, V2'⟩
        · rw [em]; exact (lk_ne (by decide)).trans hshare
        · rw [em]; exact (lk_ne (by decide)).trans hbelow
        · rw [em]; exact (lk_ne (by decide)).trans hfac
        · rw [em]; exact (lk_ne (by decide)).trans hrest
        · rw [em]; exact (lk_ne (by decide)).trans hleft
      · rw [if_neg (by omega)]
        rw [if_neg y, if_neg y] at em
        walk_at "an"
        refine ⟨_, b1.second, by decide, ?_⟩
        walk_at "dx"
        refine ⟨by show s.second.length + (0 + 1) ≤ 16777216; omega, ?_⟩
        walk_at "an"
        refine ⟨b1.k.lt, ?_⟩
        rw [show List.map D.int s.second ++ [D.int z] = (s.second ++ [z]).map D.int by rw [List.map_append]; rfl]
        have c1 : A1 (putD "second" (.lst ((s.second ++ [z]).map D.int)) fs3) (midF s z) := by
          rw [em]
          exact ⟨⟨b1.k.put (by decide), b1.pl.put (plD_ints _), (lk_ne (by decide)).trans b1.circuit, (lk_ne (by decide)).trans b1.tables, (lk_ne (by decide)).trans b1.bits, (lk_ne (by decide)).trans b1.p, (lk_ne (by decide)).trans b1.steps⟩,
            (lk_ne (by decide)).trans b1.layer, (lk_ne (by decide)).trans b1.round, (lk_ne (by decide)).trans b1.wide, (lk_ne (by decide)).trans b1.gates, (lk_ne (by decide)).trans b1.near, (lk_ne (by decide)).trans b1.columns, (lk_ne (by decide)).trans b1.first, lk_eq⟩
        refine go _ none c1 V1' fun _ => ⟨⟨c1, ?_, ?_, ?_, ?_, ?_⟩, V2'⟩
        · rw [em]; exact (lk_ne (by decide)).trans hshare
        · rw [em]; exact (lk_ne (by decide)).trans hbelow
        · rw [em]; exact (lk_ne (by decide)).trans hfac
        · rw [em]; exact (lk_ne (by decide)).trans hrest
        · rw [em]; exact (lk_ne (by decide)).trans hleft
    · rw [if_neg (by omega)]
      have em : midF s z = s := by unfold midF; rw [if_neg hb, if_neg hw]
      rw [em] at go
      have y := go fs none a1 (by
        refine ⟨hp, v1.b3, v1.w3, v1.g, v1.gl, v1.near, by show s.near.length = _; rw [nl]; exact congrArg _ hn0.symm, v1.cl, fun c hc => ⟨(v1.col c hc).1, by rw [(v1.col c hc).2]; exact congrArg _ hn0.symm⟩, v1.f, ?_, v1.sn, ?_⟩
        · show s.first.length = min (s.round + 1 - s.b) s.wide
          omega
        · show s.second.length = min (s.round + 1 - s.b - s.wide) s.wide
          omega) fun _ => ⟨a2, ?_⟩
      · rw [set_self ob] at y
        exact y
      · have e1 : leftP { s with round := s.round + 1 } = leftL s := by
          unfold leftP leftL
          show (if s.round + 1 ≤ s.b + s.wide then 2 ^ (s.wide - (s.round + 1 - s.b)) else 2 ^ (s.wide - (s.round + 1 - s.b - s.wide))) = _
          rw [if_neg (by omega), if_neg (by omega)]
          congr 1; omega
        rw [e1]
        exact ⟨v2.share, v2.below, v2.bl, v2.fac, v2.facl, v2.rest, v2.restl, v2.left, v2.leftl⟩
end Dl

namespace Dl
open PySem L2
local macro_rules | `(tactic| walk_at "dl") => `(tactic| try simp only [dSeq, dSet, dRaise_one, dRaise_two, dTryAs, dXf, dIsE, List.lookup_cons, List.lookup_nil, beq_self_eq_true, Bool.false_eq_true, if_false, dOp, dUn, dVar, dC, dCB, dCons, dNil, dRet, dRetN, dIf, dB, dAnd, dOr, dNot, dDrop, dNext, dMethL, dSetIx, dAndV, dOrV, dNotV, dBlV, dIfE, dLst, dTup, dLstM, dCall, dChain, dAsg, dgName, dgTup, bindD, asT, dFor, diList, diRng1, diRng2, diEnumerate, diZip, diReversed, dLc, dLcM, dYes, wipeD, dAug, dSl, dSlT, dpN, dpS,
  oI, oI0, oB0, oAdd, oNeg, oEq, oNe, oIx, oIsN, oNotN, isNon, oShl, oApp, oPop, oPopAt, cLen, cInt, cAbs, cSum, cMax2, cMin2, cList, cIsi, tyD, asL, asF, asK, moL_lst, ModC, DivC,
  List.getElem?_cons_zero, List.getElem?_cons_succ, List.set_cons_zero, List.set_cons_succ, List.getElem?_nil, List.length_cons, List.length_nil, List.length_map, Option.map_some, Option.bind_some, Option.isSome_some, if_true, true_and, and_true, MM.push])
local macro_rules | `(tactic| walk_at "dx") => `(tactic| try simp only [eq_self_iff_true, okE_int, okE_bl, okE_non, eqD_int, eqD_bl, kq_NoneType_int, kq_NoneType_bool, kq_NoneType_list, kq_NoneType_tuple, kq_NoneType_str, kq_bool_int, kq_bool_bool, kq_bool_list, kq_bool_tuple, kq_bool_str, kq_int_int, kq_int_bool, kq_int_list, kq_int_tuple, kq_int_str, kq_str_int, kq_str_bool, kq_str_list, kq_str_tuple, kq_str_str, kq_list_int, kq_list_bool, kq_list_list, kq_list_tuple, kq_list_str, kq_tuple_int, kq_tuple_bool, kq_tuple_list, kq_tuple_tuple, kq_tuple_str, oInL, oIsB, oNotB, oEqH, oNeH, oShr, oExt, cMaxL, cMinL, cAny, cAll, cTuple, cListM, dRevL, dFld, dSetF, dAugF, dMeth, dMake, moI_ins, app_len, set_app, List.contains_cons, List.contains_nil, Bool.true_or,  Bool.true_eq_false, decide_true, not_true_eq_false, not_false_eq_true, Bool.not_true, Bool.not_false, decide_eq_true_eq, Bool.not_eq_true', decide_eq_false_iff_not, dSeq, dSet, dRaise_one, dRaise_two, dTryAs, dXf, dIsE, List.lookup_cons, List.lookup_nil, beq_self_eq_true, Bool.false_eq_true, if_false, dOp, dUn, dVar, dC, dCB, dCons, dNil, dRet, dRetN, dIf, dB, dAnd, dOr, dNot, dDrop, dNext, dMethL, dSetIx, dAndV, dOrV, dNotV, dBlV, dIfE, dLst, dTup, dLstM, dCall, dChain, dAsg, dgName, dgTup, bindD, asT, dFor, diList, diRng1, diRng2, diEnumerate, diZip, diReversed, dLc, dLcM, dYes, wipeD, dAug, dSl, dSlT, dpN, dpS,
  oI, oI0, oB0, oAdd, oNeg, oEq, oNe, oIx, oIsN, oNotN, isNon, oShl, oApp, oPop, oPopAt, cLen, cInt, cAbs, cSum, cMax2, cMin2, cList, cIsi, tyD, asL, asF, asK, moL_lst, ModC, DivC,
  List.getElem?_cons_zero, List.getElem?_cons_succ, List.set_cons_zero, List.set_cons_succ, List.getElem?_nil, List.length_cons, List.length_nil, List.length_map, Option.map_some, Option.bind_some, Option.isSome_some, if_true, true_and, and_true, MM.push])
local macro_rules | `(tactic| walk_at "lim") => `(tactic| repeat (first | (refine ⟨by decide, ?_⟩) | (refine ⟨by (try simp only [List.length_map, List.length_dropLast, List.length_append, List.length_cons, List.length_nil, List.length_replicate, List.length_take, List.length_drop, List.length_range]); (show _ ≤ 16777216); omega, ?_⟩)))

set_option hygiene false in
local macro_rules | `(tactic| walk_at "stp") => `(tactic| (refine dSeq_k fun k1 h1 => ?_; walk_at "dx"))
set_option hygiene false in
local macro_rules | `(tactic| walk_at "nxt") => `(tactic| (subst h1; (try dsimp only); refine dSeq_k fun k1 h1 => ?_; walk_at "dx"))
set_option hygiene false in
local macro_rules | `(tactic| walk_at "lst") => `(tactic| (subst h1; (try dsimp only); walk_at "dx"))
set_option hygiene false in
local macro_rules | `(tactic| walk_at "nxt2") => `(tactic| (subst h2; (try dsimp only); refine dSeq_k fun k2 h2 => ?_; walk_at "dx"))
set_option hygiene false in
local macro_rules | `(tactic| walk_at "stp2") => `(tactic| (refine dSeq_k fun k2 h2 => ?_; walk_at "dx"))
set_option hygiene false in
local macro_rules | `(tactic| walk_at "lst2") => `(tactic| (subst h2; (try dsimp only); walk_at "dx"))
set_option hygiene false in
local macro_rules | `(tactic| walk_at "an") => `(tactic| (walk_at "dx"; (try simp only [dgTupG, dgsCons, dgsNil, dgFld, asT, dVar, List.length_cons, List.length_nil, List.getElem?_cons_zero, ob, obL, hk, moI_ins, Fl_Answerer.circuit, Fl_Answerer.tables, Fl_Answerer.bits, Fl_Answerer.p, Fl_Answerer.steps, Fl_Answerer.layer, Fl_Answerer.round, Fl_Answerer.wide, Fl_Answerer.gates, Fl_Answerer.near, Fl_Answerer.columns, Fl_Answerer.first, Fl_Answerer.second, Fl_Answerer.share, Fl_Answerer.below, Fl_Answerer.factors, Fl_Answerer.rest, Fl_Answerer.left,
  List.getElem?_set_self, List.set_set, List.length_set, look_put, String.reduceEq, reduceIte, exists_eq_left', Option.some.injEq, true_and, and_true])))

/-- what the answerer is made of -/
structure B0 (s : AS) (most wide : Nat) : Prop where
  c : CirOK s.c most wide
  m4 : most ≤ 4
  w3 : wide ≤ 3
  b3 : s.b ≤ 3
  tl : s.T.length = s.c.ls.length + 1
  t : ∀ i ≤ s.c.ls.length, InP s.c.p (s.T.getD i []) ∧ (s.T.getD i []).length = colsN s.c i * 2 ^ s.b
theorem cutAB {xs : List D} {a b : Nat} (hab : a ≤ b) (hb : b ≤ xs.length) : cutD xs (some (a : Nat)) (some (b : Nat)) = (xs.drop a).take (b - a) := by
  unfold cutD
  rw [HT.sIx_nat, HT.sIx_nat, Nat.min_eq_left hb, Nat.min_eq_left (by omega)]
theorem B0.cols {s : AS} {most wide : Nat} (h : B0 s most wide) {i : Nat} (hi : i ≤ s.c.ls.length) : 1 ≤ colsN s.c i ∧ colsN s.c i ≤ 8 := by
  have hwl := h.c.wl
  have z := pow_le8 (h.c.w0 _ (gi_mem (show i < s.c.ws.length by omega))) h.w3
  have := colsN_eq (c := s.c) (i := i)
  unfold colsC at this
  omega
theorem wgts_len {p : Int} {l : List Gate} {ws : List Int} (h : l.length = ws.length) : (wgts p l ws).length = l.length := by
  unfold wgts
  rw [List.length_map, List.length_zip, h, Nat.min_self]
theorem wgts_ok {p : Int} {n : Nat} (hp : 2 ≤ p) {l : List Gate} {ws : List Int} (h : ∀ g ∈ l, gOK p (n : Nat) g) : ∀ g ∈ wgts p l ws, wgOK p n g := fun g hg => by
  obtain ⟨⟨a, w⟩, hm, rfl⟩ := List.mem_map.mp hg
  have z := h a (List.of_mem_zip hm).1
  cases a with
  | lin a x b y =>
    obtain ⟨ha, hx, hb, hy⟩ := z
    exact ⟨mod_in hp, mod_in hp, ⟨Int.le_refl 0, by show (0 : Int) < p; omega⟩, hx, hy⟩
  | mul c x y =>
    obtain ⟨ha, hx, hy⟩ := z
    exact ⟨⟨Int.le_refl 0, by show (0 : Int) < p; omega⟩, ⟨Int.le_refl 0, by show (0 : Int) < p; omega⟩, mod_in hp, hx, hy⟩
def C_Answerer_begin : DC := fun ds m Φ _ => ∃ (k : Nat) (fs : List (String × D)) (s : AS) (layer most wide : Nat) (g : List Int), ds = [.hnd k, .int (layer : Nat), .lst (g.map D.int)] ∧ m.M[k]? = some (.ins "Answerer" fs) ∧ A0 fs s ∧ B0 s most wide ∧ layer < s.c.ls.length ∧ InP s.c.p g ∧ (g.length : Int) = s.b + gi s.c.ws (layer : Nat) ∧
  ∀ fs', AnsOK fs' (beginF s layer g) → Φ .non ⟨m.M.set k (.ins "Answerer" fs'), m.s⟩
def W_Answerer_begin (fl : String → List String) : DS := dSeq (dSet 3 (dFld (fl "p") "p" (dVar 0))) (dSeq (dSet 4 (dOp oShl (dC (.int 1)) (dFld (fl "bits") "bits" (dVar 0)))) (dSeq (dSet 5 (dCall 2 C_point_table (dCons (dSl (dVar 2) (dpS (dFld (fl "bits") "bits" (dVar 0))) (dpN)) (dCons (dVar 3) (dNil))))) (dSeq (dSet 6 (dOp oIx (dFld (fl "tables") "tables" (dVar 0)) (dOp oAdd (dVar 1) (dC (.int 1))))) (dSeq (dSetF (fl "layer") "layer" (dVar 1) (dVar 0)) (dSeq (dSetF (fl "round") "round" (dC (.int 0)) (dVar 0)) (dSeq (dSetF (fl "wide") "wide" (dCall 2 C_width (dCons (dFld (fl "circuit") "circuit" (dVar 0)) (dCons (dOp oAdd (dVar 1) (dC (.int 1))) (dNil)))) (dVar 0)) (dSeq (dSetF (fl "gates") "gates" (dCall 3 C_weighted_gates (dCons (dOp oIx (dOp oIx (dFld (fl "circuit") "circuit" (dVar 0)) (dC (.int 3))) (dVar 1)) (dCons (dVar 5) (dCons (dVar 3) (dNil))))) (dVar 0)) (dSeq (dSetF (fl "near") "near" (dCall 2 C_point_table (dCons (dSl (dVar 2) (dpN) (dpS (dFld (fl "bits") "bits" (dVar 0)))) (dCons (dVar 3) (dNil)))) (dVar 0)) (dSeq (dSetF (fl "columns") "columns" (dLc (diRng1 (dCons (dOp oShl (dC (.int 1)) (dFld (fl "wide") "wide" (dVar 0))) (dNil))) (dgName 7) (dYes) (dSl (dVar 6) (dpS (dOp oMul (dVar 4) (dVar 7))) (dpS (dOp oMul (dVar 4) (dOp oAdd (dVar 7) (dC (.int 1)))))) [7]) (dVar 0)) (dSeq (dSetF (fl "first") "first" (dLst (dNil)) (dVar 0)) (dSeq (dSetF (fl "second") "second" (dLst (dNil)) (dVar 0)) (dDrop (dMeth [("Answerer", C_Answerer_turn)] "turn" 0 (dVar 0) dNil)))))))))))))
theorem rd_Answerer_begin {fl : String → List String} (F : Fl_Answerer fl) : ∀ ds m Φ Ψ, ds.length = 3 → C_Answerer_begin ds m Φ Ψ → W_Answerer_begin fl { nx := fun _ m' => Φ .non m', rt := Φ } (fun _ => Ψ) (ds.map some ++ List.replicate (8 - ds.length) none) m := by
  intro ds m Φ Ψ _ h
  obtain ⟨k, fs, s, layer, most, wide, g, rfl, ob, a0, b0, hlay, hg, gl, q⟩ := h
  have hk := getLt ob
  have obL := obApp ob
  have hc := b0.c
  have hwl := hc.wl
  have hp := hc.pm
  have hp1 := hp.1
  have hp2 := hp.2
  have hb3 := b0.b3
  have hw3 := b0.w3
  have w0 := hc.w0 _ (gi_mem (show layer < s.c.ws.length by omega))
  have w1 := hc.w0 _ (gi_mem (show layer + 1 < s.c.ws.length by omega))
  have b8 : (2 : Nat) ^ s.b ≤ 2 ^ 3 := Nat.pow_le_pow_right (by decide) hb3
  have b1 := Nat.two_pow_pos s.b
  have ecD : cD s.c = .tup [.str (PySem.Str.ofString "circuit"), .int s.c.p, .lst (s.c.ws.map D.int), .lst (s.c.ls.map lD)] := rfl
  change W_Answerer_begin fl _ _ [some (.hnd k), some (.int (layer : Nat)), some (.lst (g.map D.int)), none, none, none, none, none] m
  unfold W_Answerer_begin
  walk_at "stp"
  walk_at "an"
  refine ⟨_, a0.p, ?_⟩
  walk_at "nxt"
  walk_at "an"
  refine ⟨_, a0.bits, ?_⟩
  walk_at "dx"
  rw [shl1]
  refine ⟨cpow_ok (by omega), ?_⟩
  walk_at "nxt"
  walk_at "an"
  refine ⟨_, a0.bits, ?_⟩
  walk_at "dx"
  rw [cutR (by rw [List.length_map]; omega), ← List.map_drop]
  have gdl : (g.drop s.b).length = (gi s.c.ws (layer : Nat)).toNat := by rw [List.length_drop]; omega
  refine ⟨g.drop s.b, s.c.p, rfl, hp, by rw [gdl]; omega, ?_⟩
  have wwl : (pointT (g.drop s.b) s.c.p).length = colsN s.c layer := by rw [pointT_len, gdl]; rfl
  have wwi : InP s.c.p (pointT (g.drop s.b) s.c.p) := pointT_in hp1
  generalize hW : pointT (g.drop s.b) s.c.p = ww at *
  have htab := b0.t (layer + 1) (by omega)
  have ht1 : s.T[layer + 1]? = some (s.T.getD (layer + 1) []) := by
    rw [List.getD_eq_getElem?_getD, List.getElem?_eq_getElem (by rw [b0.tl]; omega)]; rfl
  walk_at "nxt"
  walk_at "an"
  refine ⟨_, a0.tables, ?_⟩
  rw [show tabL s.T = .lst (s.T.map intL) from rfl]
  walk_at "dx"
  refine ⟨intL (s.T.getD (layer + 1) []), ?_, ?_⟩
  · rw [show ((layer : Nat) : Int) + 1 = ((layer + 1 : Nat) : Int) by omega]
    exact atI_nat (by rw [List.getElem?_map, ht1]; rfl)
  generalize hB : s.T.getD (layer + 1) [] = B at *
  walk_at "nxt"
  walk_at "an"
  refine ⟨a0.k.lt, ?_⟩
  walk_at "nxt"
  walk_at "an"
  refine ⟨(a0.k.put (by decide)).lt, ?_⟩
  walk_at "nxt"
  walk_at "an"
  refine ⟨_, a0.circuit, ?_⟩
  rw [ecD]
  refine ⟨_, _, _, .int (gi s.c.ws ((layer + 1 : Nat) : Int)), _, _, rfl, ?_, ?_⟩
  · rw [show ((layer : Nat) : Int) + 1 = ((layer + 1 : Nat) : Int) by omega]
    exact atI_gi (by omega) (by omega)
  walk_at "an"
  refine ⟨((a0.k.put (by decide)).put (by decide)).lt, ?_⟩
  walk_at "nxt"
  walk_at "an"
  refine ⟨_, a0.circuit, ?_⟩
  rw [ecD]
  walk_at "dx"
  refine ⟨.lst (s.c.ls.map lD), rfl, ?_⟩
  walk_at "dx"
  refine ⟨lD (s.c.ls.getD layer []), ?_, ?_⟩
  · exact atI_nat (by rw [List.getElem?_map, List.getElem?_eq_getElem hlay, List.getD_eq_getElem?_getD, List.getElem?_eq_getElem hlay]; rfl)
  have ll := hc.ll layer hlay
  have gg := hc.gg layer hlay
  have cl0 := colsN_eq (c := s.c) (i := layer)
  have cl1 := colsN_eq (c := s.c) (i := layer + 1)
  have c8 := b0.cols (i := layer) (by omega)
  have c81 := b0.cols (i := layer + 1) (by omega)
  unfold colsC at cl0 cl1
  generalize hLs : s.c.ls.getD layer [] = l at *
  have lln : l.length = colsN s.c layer := by omega
  refine ⟨l, ww, s.c.p, _, rfl, hp, gg, wwi, by omega, ?_⟩
  walk_at "an"
  refine ⟨(((a0.k.put (by decide)).put (by decide)).put (by decide)).lt, ?_⟩
  walk_at "nxt"
  walk_at "an"
  refine ⟨_, a0.bits, ?_⟩
  walk_at "dx"
  rw [cutT (by rw [List.length_map]; omega), ← List.map_take]
  have gtl : (g.take s.b).length = s.b := by rw [List.length_take]; omega
  refine ⟨g.take s.b, s.c.p, rfl, hp, by rw [gtl]; omega, ?_⟩
  walk_at "an"
  refine ⟨((((a0.k.put (by decide)).put (by decide)).put (by decide)).put (by decide)).lt, ?_⟩
  walk_at "nxt"
  walk_at "an"
  rw [show (1 : Int) * 2 ^ (gi s.c.ws ((layer + 1 : Nat) : Int)).toNat = ((colsN s.c (layer + 1) : Nat) : Int) by rw [Int.one_mul]; exact cl1.symm]
  refine ⟨⟨by omega, by omega, by decide⟩, ⟨by omega, by omega⟩, ?_⟩
  rw [rngD0, Int.toNat_natCast]
  have htl := htab.2
  have hbl : B.length = 2 ^ s.b * colsN s.c (layer + 1) := by rw [htl, Nat.mul_comm]
  refine lcW_fn (inj := fun i : Nat => D.int (i : Nat)) (out := intL) (fun j : Nat => (B.drop (2 ^ s.b * j)).take (2 ^ s.b)) _ (List.range (colsN s.c (layer + 1))) ?_ (fun y => clD_pl _ (plD_ints y)) (by rw [List.length_range]; show _ ≤ 16777216; omega) ?_
  · intro j hj m2 Θ hΘ
    have hj := List.mem_range.mp hj
    have h1 := Nat.mul_le_mul_left (2 ^ s.b) (show j + 1 ≤ colsN s.c (layer + 1) by omega)
    have h2 : 2 ^ s.b * (j + 1) = 2 ^ s.b * j + 2 ^ s.b := Nat.mul_succ _ _
    rw [show intL B = .lst (B.map D.int) from rfl]
    walk_at "dx"
    rw [show (((2 ^ s.b : Nat) : Int)) * (j : Nat) = ((2 ^ s.b * j : Nat) : Int) by rw [Int.natCast_mul], show (((2 ^ s.b : Nat) : Int)) * (((j : Nat) : Int) + 1) = ((2 ^ s.b * (j + 1) : Nat) : Int) by rw [Int.natCast_mul]; rfl]
    refine ⟨mulL (by omega) (by omega), mulL (by omega) (by omega), ?_⟩
    rw [cutAB (by omega) (by rw [List.length_map]; omega), ← List.map_drop, ← List.map_take, show 2 ^ s.b * (j + 1) - 2 ^ s.b * j = 2 ^ s.b by omega]
    exact hΘ
  walk_at "an"
  have K5 := ((((a0.k.put (f := "layer") (v := .int (layer : Nat)) (by decide)).put (f := "round") (v := .int 0) (by decide)).put (f := "wide") (v := .int (gi s.c.ws ((layer + 1 : Nat) : Int))) (by decide)).put (f := "gates") (v := .lst ((wgts s.c.p l ww).map wgD)) (by decide)).put (f := "near") (v := .lst ((pointT (g.take s.b) s.c.p).map D.int)) (by decide)
  have P5 := ((((a0.pl.put (f := "layer") (v := .int (layer : Nat)) rfl).put (f := "round") (v := .int 0) rfl).put (f := "wide") (v := .int (gi s.c.ws ((layer + 1 : Nat) : Int))) rfl).put (f := "gates") (v := .lst ((wgts s.c.p l ww).map wgD)) (plD_wg _)).put (f := "near") (v := .lst ((pointT (g.take s.b) s.c.p).map D.int)) (plD_ints _)
  refine ⟨K5.lt, ?_⟩
  walk_at "nxt"
  walk_at "an"
  have K6 := K5.put (f := "columns") (v := .lst (((List.range (colsN s.c (layer + 1))).map fun j : Nat => (B.drop (2 ^ s.b * j)).take (2 ^ s.b)).map intL)) (by decide)
  have P6 := P5.put (f := "columns") (v := .lst (((List.range (colsN s.c (layer + 1))).map fun j : Nat => (B.drop (2 ^ s.b * j)).take (2 ^ s.b)).map intL)) (plD_tab _)
  refine ⟨by decide, K6.lt, ?_⟩
  walk_at "nxt"
  walk_at "an"
  have K7 := K6.put (f := "first") (v := .lst []) (by decide)
  have P7 := P6.put (f := "first") (v := .lst []) rfl
  refine ⟨by decide, K7.lt, ?_⟩
  have K8 := K7.put (f := "second") (v := .lst []) (by decide)
  have P8 := P7.put (f := "second") (v := .lst []) rfl
  have eb : beginF s layer g = turnF { s with layer := layer, round := 0, wide := (gi s.c.ws ((layer + 1 : Nat) : Int)).toNat, gates := wgts s.c.p l ww, near := pointT (g.take s.b) s.c.p, cols := (List.range (colsN s.c (layer + 1))).map (fun k => (B.drop (2 ^ s.b * k)).take (2 ^ s.b)), first := [], second := [] } := by
    unfold beginF
    rw [hW, hB, hLs]
  have A8 : A1 (putD "second" (.lst []) (putD "first" (.lst []) (putD "columns" (.lst (((List.range (colsN s.c (layer + 1))).map fun j : Nat => (B.drop (2 ^ s.b * j)).take (2 ^ s.b)).map intL)) (putD "near" (.lst ((pointT (g.take s.b) s.c.p).map D.int)) (putD "gates" (.lst ((wgts s.c.p l ww).map wgD)) (putD "wide" (.int (gi s.c.ws ((layer + 1 : Nat) : Int))) (putD "round" (.int 0) (putD "layer" (.int (layer : Nat)) fs))))))))
      { s with layer := layer, round := 0, wide := (gi s.c.ws ((layer + 1 : Nat) : Int)).toNat, gates := wgts s.c.p l ww, near := pointT (g.take s.b) s.c.p, cols := (List.range (colsN s.c (layer + 1))).map (fun k => (B.drop (2 ^ s.b * k)).take (2 ^ s.b)), first := [], second := [] } := by
    refine ⟨⟨K8, P8, ?_, ?_, ?_, ?_, ?_⟩, ?_, ?_, ?_, ?_, ?_, ?_, ?_, ?_⟩ <;> simp only [look_put, String.reduceEq, reduceIte]
    · exact a0.circuit
    · exact a0.tables
    · exact a0.bits
    · exact a0.p
    · exact a0.steps
    · rfl
    · rw [show (((gi s.c.ws ((layer + 1 : Nat) : Int)).toNat : Nat) : Int) = gi s.c.ws ((layer + 1 : Nat) : Int) by omega]
    · rfl
    · rfl
    · rfl
  generalize hF : putD "second" (.lst []) (putD "first" (.lst []) (putD "columns" (.lst (((List.range (colsN s.c (layer + 1))).map fun j : Nat => (B.drop (2 ^ s.b * j)).take (2 ^ s.b)).map intL)) (putD "near" (.lst ((pointT (g.take s.b) s.c.p).map D.int)) (putD "gates" (.lst ((wgts s.c.p l ww).map wgD)) (putD "wide" (.int (gi s.c.ws ((layer + 1 : Nat) : Int))) (putD "round" (.int 0) (putD "layer" (.int (layer : Nat)) fs))))))) = fs8 at *
  have ob8 : (m.M.set k (.ins "Answerer" fs8))[k]? = some (.ins "Answerer" fs8) := List.getElem?_set_self hk
  walk_at "lst"
  simp only [ob8, moI_ins]
  walk_at "dx"
  have c1w : colsN s.c (layer + 1) = 2 ^ (gi s.c.ws ((layer + 1 : Nat) : Int)).toNat := rfl
  refine ⟨notkey A8.k (by decide), k, fs8, _, rfl, ob8, A8, ?_, fun h => ?_, fun fs' x1 x2 x3 => ?_⟩
  · refine ⟨hp, by show s.b ≤ 10; omega, by show (gi s.c.ws ((layer + 1 : Nat) : Int)).toNat ≤ 10; omega, fun g' hg' => ?_, ?_, pointT_in hp1, ?_, ?_, fun c hc' => ?_, fun x hx => (by cases hx), ?_, fun x hx => (by cases hx), ?_⟩
    · exact wgts_ok (n := 2 ^ (gi s.c.ws ((layer + 1 : Nat) : Int)).toNat) hp1 (fun g h => by
        have := gg g h
        rw [← cl1] at this
        rw [← c1w]; exact this) g' hg'
    · show (wgts s.c.p l ww).length ≤ 100000
      rw [wgts_len (by omega)]; omega
    · show (pointT (g.take s.b) s.c.p).length = 2 ^ (s.b - 0)
      rw [pointT_len, gtl]; rfl
    · show (List.map _ (List.range _)).length = _
      rw [List.length_map, List.length_range]; exact c1w
    · obtain ⟨j, hj, rfl⟩ := List.mem_map.mp hc'
      have hj := List.mem_range.mp hj
      have h1 := Nat.mul_le_mul_left (2 ^ s.b) (show j + 1 ≤ colsN s.c (layer + 1) by omega)
      have h2 : 2 ^ s.b * (j + 1) = 2 ^ s.b * j + 2 ^ s.b := Nat.mul_succ _ _
      refine ⟨fun x hx => htab.1 x (List.mem_of_mem_drop (List.mem_of_mem_take hx)), ?_⟩
      show ((B.drop _).take _).length = 2 ^ (s.b - 0)
      rw [List.length_take, List.length_drop]
      show min (2 ^ s.b) (B.length - 2 ^ s.b * j) = 2 ^ s.b
      omega
    · show 0 = min (0 - s.b) _
      omega
    · show 0 = min (0 - s.b - _) _
      omega
  · exact absurd h (Nat.not_lt_zero _)
  · rw [List.set_set]
    have tr := turnF_r { s with layer := layer, round := 0, wide := (gi s.c.ws ((layer + 1 : Nat) : Int)).toNat, gates := wgts s.c.p l ww, near := pointT (g.take s.b) s.c.p, cols := (List.range (colsN s.c (layer + 1))).map (fun k => (B.drop (2 ^ s.b * k)).take (2 ^ s.b)), first := [], second := [] }
    rw [eb] at q
    refine q fs' ⟨x1, x2, fun h => x3 ?_⟩
    rw [tr.1, tr.2.1] at h
    exact h
end Dl

namespace Dl
open PySem L2
local macro_rules | `(tactic| walk_at "dl") => `(tactic| try simp only [dSeq, dSet, dRaise_one, dRaise_two, dTryAs, dXf, dIsE, List.lookup_cons, List.lookup_nil, beq_self_eq_true, Bool.false_eq_true, if_false, dOp, dUn, dVar, dC, dCB, dCons, dNil, dRet, dRetN, dIf, dB, dAnd, dOr, dNot, dDrop, dNext, dMethL, dSetIx, dAndV, dOrV, dNotV, dBlV, dIfE, dLst, dTup, dLstM, dCall, dChain, dAsg, dgName, dgTup, bindD, asT, dFor, diList, diRng1, diRng2, diEnumerate, diZip, diReversed, dLc, dLcM, dYes, wipeD, dAug, dSl, dSlT, dpN, dpS,
  oI, oI0, oB0, oAdd, oNeg, oEq, oNe, oIx, oIsN, oNotN, isNon, oShl, oApp, oPop, oPopAt, cLen, cInt, cAbs, cSum, cMax2, cMin2, cList, cIsi, tyD, asL, asF, asK, moL_lst, ModC, DivC,
  List.getElem?_cons_zero, List.getElem?_cons_succ, List.set_cons_zero, List.set_cons_succ, List.getElem?_nil, List.length_cons, List.length_nil, List.length_map, Option.map_some, Option.bind_some, Option.isSome_some, if_true, true_and, and_true, MM.push])
local macro_rules | `(tactic| walk_at "dx") => `(tactic| try simp only [eq_self_iff_true, okE_int, okE_bl, okE_non, eqD_int, eqD_bl, kq_NoneType_int, kq_NoneType_bool, kq_NoneType_list, kq_NoneType_tuple, kq_NoneType_str, kq_bool_int, kq_bool_bool, kq_bool_list, kq_bool_tuple, kq_bool_str, kq_int_int, kq_int_bool, kq_int_list, kq_int_tuple, kq_int_str, kq_str_int, kq_str_bool, kq_str_list, kq_str_tuple, kq_str_str, kq_list_int, kq_list_bool, kq_list_list, kq_list_tuple, kq_list_str, kq_tuple_int, kq_tuple_bool, kq_tuple_list, kq_tuple_tuple, kq_tuple_str, oInL, oIsB, oNotB, oEqH, oNeH, oShr, oExt, cMaxL, cMinL, cAny, cAll, cTuple, cListM, dRevL, dFld, dSetF, dAugF, dMeth, dMake, moI_ins, app_len, set_app, List.contains_cons, List.contains_nil, Bool.true_or,  Bool.true_eq_false, decide_true, not_true_eq_false, not_false_eq_true, Bool.not_true, Bool.not_false, decide_eq_true_eq, Bool.not_eq_true', decide_eq_false_iff_not, dSeq, dSet, dRaise_one, dRaise_two, dTryAs, dXf, dIsE, List.lookup_cons, List.lookup_nil, beq_self_eq_true, Bool.false_eq_true, if_false, dOp, dUn, dVar, dC, dCB, dCons, dNil, dRet, dRetN, dIf, dB, dAnd, dOr, dNot, dDrop, dNext, dMethL, dSetIx, dAndV, dOrV, dNotV, dBlV, dIfE, dLst, dTup, dLstM, dCall, dChain, dAsg, dgName, dgTup, bindD, asT, dFor, diList, diRng1, diRng2, diEnumerate, diZip, diReversed, dLc, dLcM, dYes, wipeD, dAug, dSl, dSlT, dpN, dpS,
  oI, oI0, oB0, oAdd, oNeg, oEq, oNe, oIx, oIsN, oNotN, isNon, oShl, oApp, oPop, oPopAt, cLen, cInt, cAbs, cSum, cMax2, cMin2, cList, cIsi, tyD, asL, asF, asK, moL_lst, ModC, DivC,
  List.getElem?_cons_zero, List.getElem?_cons_succ, List.set_cons_zero, List.set_cons_succ, List.getElem?_nil, List.length_cons, List.length_nil, List.length_map, Option.map_some, Option.bind_some, Option.isSome_some, if_true, true_and, and_true, MM.push])
local macro_rules | `(tactic| walk_at "lim") => `(tactic| repeat (first | (refine ⟨by decide, ?_⟩) | (refine ⟨by (try simp only [List.length_map, List.length_dropLast, List.length_append, List.length_cons, List.length_nil, List.length_replicate, List.length_take, List.length_drop, List.length_range]); (show _ ≤ 16777216); omega, ?_⟩)))

set_option hygiene false in
local macro_rules | `(tactic| walk_at "stp") => `(tactic| (refine dSeq_k fun k1 h1 => ?_; walk_at "dx"))
set_option hygiene false in
local macro_rules | `(tactic| walk_at "nxt") => `(tactic| (subst h1; (try dsimp only); refine dSeq_k fun k1 h1 => ?_; walk_at "dx"))
set_option hygiene false in
local macro_rules | `(tactic| walk_at "lst") => `(tactic| (subst h1; (try dsimp only); walk_at "dx"))
set_option hygiene false in
local macro_rules | `(tactic| walk_at "nxt2") => `(tactic| (subst h2; (try dsimp only); refine dSeq_k fun k2 h2 => ?_; walk_at "dx"))
set_option hygiene false in
local macro_rules | `(tactic| walk_at "stp2") => `(tactic| (refine dSeq_k fun k2 h2 => ?_; walk_at "dx"))
set_option hygiene false in
local macro_rules | `(tactic| walk_at "lst2") => `(tactic| (subst h2; (try dsimp only); walk_at "dx"))
set_option hygiene false in
local macro_rules | `(tactic| walk_at "an") => `(tactic| (walk_at "dx"; (try simp only [dgTupG, dgsCons, dgsNil, dgFld, asT, dVar, List.length_cons, List.length_nil, List.getElem?_cons_zero, ob, obL, hk, moI_ins, Fl_Answerer.circuit, Fl_Answerer.tables, Fl_Answerer.bits, Fl_Answerer.p, Fl_Answerer.steps, Fl_Answerer.layer, Fl_Answerer.round, Fl_Answerer.wide, Fl_Answerer.gates, Fl_Answerer.near, Fl_Answerer.columns, Fl_Answerer.first, Fl_Answerer.second, Fl_Answerer.share, Fl_Answerer.below, Fl_Answerer.factors, Fl_Answerer.rest, Fl_Answerer.left,
  List.getElem?_set_self, List.set_set, List.length_set, look_put, String.reduceEq, reduceIte, exists_eq_left', Option.some.injEq, true_and, and_true])))

theorem flat_len {α : Type} {f : Nat → List α} {N : Nat} (hf : ∀ g, (f g).length = N) : ∀ cols, ((List.range cols).flatMap f).length = cols * N
  | 0 => by simp
  | k + 1 => by rw [List.range_succ, List.flatMap_append, List.length_append, flat_len hf k, Nat.add_mul]; simp [hf]
theorem tab_len {F : List (List (List Int))} {i cols : Nat} : (tabI F i cols).length = cols * F.length := flat_len (fun _ => List.length_map ..) cols
theorem ck_p {c : Cir} {xs : List D} (h : pow2 xs.length) : chkR c (.lst xs) = if 1024 < xs.length then some (seD "rows") else if xs.all (rowOK c.p (colsC c c.ls.length)) = true then none else some (ceD "row") := by
  show (if @decide (pow2 xs.length) (Classical.propDecidable _) = false then some (ceD "rows") else _) = _
  rw [if_neg]
  rw [@decide_eq_true _ (Classical.propDecidable _) h]
  decide
theorem fitsD_in {p v : Int} (h : 0 ≤ v ∧ v < p) : fitsD (.int v) (p - 1) = true := decide_eq_true ⟨h.1, by omega⟩
theorem rowOK_l {c : Cir} {r : List Int} {n : Int} (h : rowsOK c.p n r) : rowOK c.p n (intL r) = true := by
  show (decide (((r.map D.int).length : Int) = n) && (r.map D.int).all fun y => fitsD y (c.p - 1)) = true
  rw [List.length_map, decide_eq_true h.len, Bool.true_and, List.all_eq_true]
  intro x hx
  obtain ⟨v, hv, rfl⟩ := List.mem_map.mp hx
  exact fitsD_in (h.inp v hv)
theorem ck_ok {c : Cir} {R : List (List Int)} {b : Nat} (hl : R.length = 2 ^ b) (hb : b ≤ 10) (h : ∀ r ∈ R, rowsOK c.p (colsC c c.ls.length) r) : chkR c (.lst (R.map intL)) = none := by
  have : 2 ^ b ≤ 2 ^ 10 := Nat.pow_le_pow_right (n := 2) (by decide) hb
  rw [ck_p ⟨b, by rw [List.length_map]; exact hl⟩, if_neg (by rw [List.length_map]; omega), if_pos]
  rw [List.all_eq_true]
  intro x hx
  obtain ⟨r, hr, rfl⟩ := List.mem_map.mp hx
  exact rowOK_l (h r hr)
/-- the answerer, new -/
def s0 (c : Cir) (R : List (List Int)) (b : Nat) : AS := ⟨c, tables c R, b, 0, 0, 0, 0, [], [], [], [], [], 0, [], [], [], []⟩
theorem tables_len {c : Cir} {R : List (List Int)} : (tables c R).length = c.ls.length + 1 := by unfold tables; rw [List.length_map, List.length_range]
theorem tables_at {c : Cir} {R : List (List Int)} {i : Nat} (h : i ≤ c.ls.length) : (tables c R).getD i [] = tabI (R.map (rr c.p c.ls)) i (colsN c i) := by
  rw [List.getD_eq_getElem?_getD]
  unfold tables
  rw [List.getElem?_map, List.getElem?_range (by omega)]; rfl
theorem tabI_in {c : Cir} {most wide : Nat} (hc : CirOK c most wide) {R : List (List Int)} (hR : ∀ r ∈ R, rowsOK c.p (colsC c c.ls.length) r) {i : Nat} (hi : i ≤ c.ls.length) : InP c.p (tabI (R.map (rr c.p c.ls)) i (colsN c i)) := fun x hx => by
  unfold tabI at hx
  obtain ⟨g, hg, hx⟩ := List.mem_flatMap.mp hx
  obtain ⟨f, hf, rfl⟩ := List.mem_map.mp hx
  obtain ⟨r, hr, rfl⟩ := List.mem_map.mp hf
  have z := (rr_get hc (hR r hr) hi).2
  have hg := List.mem_range.mp hg
  have zl := z.len
  rw [← colsN_eq] at zl
  exact gi_in z.inp (by omega) (by omega)
theorem b0_s0 {c : Cir} {most wide b : Nat} (hc : CirOK c most wide) (hm : most ≤ 4) (hw : wide ≤ 3) (hb : b ≤ 3) {R : List (List Int)} (hl : R.length = 2 ^ b) (hR : ∀ r ∈ R, rowsOK c.p (colsC c c.ls.length) r) : B0 (s0 c R b) most wide :=
  ⟨hc, hm, hw, hb, tables_len, fun i hi => by
    show InP c.p ((tables c R).getD i []) ∧ ((tables c R).getD i []).length = colsN c i * 2 ^ b
    have hi : i ≤ c.ls.length := hi
    rw [tables_at hi]
    exact ⟨tabI_in hc hR hi, by rw [tab_len, List.length_map, hl]⟩⟩
theorem smallR_l {c : Cir} {most wide : Nat} (hc : CirOK c most wide) (hw : wide ≤ 3) {R : List (List Int)} (h : R.length ≤ 100000) (hR : ∀ r ∈ R, rowsOK c.p (colsC c c.ls.length) r) : smallR (.lst (R.map intL)) := fun xs e => by
  cases e
  have hwl := hc.wl
  refine ⟨by rw [List.length_map]; omega, fun ys hy => ?_⟩
  obtain ⟨r, h, e⟩ := List.mem_map.mp hy
  cases e
  rw [List.length_map]
  have z := pow_le8 (hc.w0 _ (gi_mem (show c.ls.length < c.ws.length by omega))) hw
  have := (hR r h).len
  unfold colsC at this
  omega
def C_Answerer_init : DC := fun ds m Φ _ => ∃ (k : Nat) (c : Cir) (most wide b : Nat) (R : List (List Int)), ds = [.hnd k, cD c, .lst (R.map intL)] ∧ m.M[k]? = some (.ins "Answerer" []) ∧ CirOK c most wide ∧ most ≤ 4 ∧ wide ≤ 3 ∧ b ≤ 3 ∧ R.length = 2 ^ b ∧ (∀ r ∈ R, rowsOK c.p (colsC c c.ls.length) r) ∧
  ∀ fs', A0 fs' (s0 c R b) → Φ .non ⟨m.M.set k (.ins "Answerer" fs'), m.s⟩
def W_Answerer_init (fl : String → List String) : DS := dSeq (dSetF (fl "circuit") "circuit" (dVar 1) (dVar 0)) (dSeq (dSetF (fl "tables") "tables" (dCall 2 C_run (dCons (dVar 1) (dCons (dVar 2) (dNil)))) (dVar 0)) (dSeq (dSetF (fl "bits") "bits" (dCall 1 C_row_bits (dCons (dVar 2) (dNil))) (dVar 0)) (dSeq (dSetF (fl "p") "p" (dCall 1 C_modulus (dCons (dVar 1) (dNil))) (dVar 0)) (dSetF (fl "steps") "steps" (dC (.int 0)) (dVar 0)))))
theorem rd_Answerer_init {fl : String → List String} (F : Fl_Answerer fl) : ∀ ds m Φ Ψ, ds.length = 3 → C_Answerer_init ds m Φ Ψ → W_Answerer_init fl { nx := fun _ m' => Φ .non m', rt := Φ } (fun _ => Ψ) (ds.map some ++ List.replicate (3 - ds.length) none) m := by
  intro ds m Φ Ψ _ h
  obtain ⟨k, c, most, wide, b, R, rfl, ob, hc, hm, hw, hb, hl, hR, q⟩ := h
  have hk := getLt ob
  have obL := obApp ob
  have ecD : cD c = .tup [.str (PySem.Str.ofString "circuit"), .int c.p, .lst (c.ws.map D.int), .lst (c.ls.map lD)] := rfl
  have b8 : (2 : Nat) ^ b ≤ 2 ^ 3 := Nat.pow_le_pow_right (by decide) hb
  have K0 : KeysOK ansKeys [] := KeysOK.nil (by decide)
  have P0 : PlF [] := fun x hx => by cases hx
  change W_Answerer_init fl _ _ [some (.hnd k), some (cD c), some (.lst (R.map intL))] m
  unfold W_Answerer_init
  walk_at "stp"
  walk_at "an"
  refine ⟨K0.lt, ?_⟩
  have K1 := K0.put (f := "circuit") (v := cD c) (by decide)
  have P1 := P0.put (f := "circuit") (v := cD c) (plD_c c)
  walk_at "nxt"
  refine ⟨_, _, rfl, plD_c c, okE_mono _ (okE_c c) (by decide), smallC_c hc hm hw, plD_tab R, smallR_l hc hw (by omega) hR, .inr ⟨c, most, wide, rfl, hc, hm, hw, fun e fs z => (by rw [ck_ok hl (by omega) hR] at z; cases z), fun R2 e _ _ hR2 => ?_⟩⟩
  have e : R2 = R := by
    have inj : Function.Injective intL := fun x y h => by
      have h : D.lst (x.map D.int) = D.lst (y.map D.int) := h
      injection h with h
      exact List.map_inj_right (fun a b h => by injection h) |>.mp h
    injection e with e
    exact (List.map_inj_right (fun a b h => inj h) |>.mp e).symm
  subst e
  walk_at "an"
  refine ⟨K1.lt, ?_⟩
  have K2 := K1.put (f := "tables") (v := tabL (tables c R2)) (by decide)
  have P2 := P1.put (f := "tables") (v := tabL (tables c R2)) (plD_tab _)
  walk_at "nxt"
  refine ⟨R2.map intL, rfl, by rw [List.length_map]; omega, fun b2 hb1 hb2 => ?_⟩
  have e2 : b2 = b := by
    rw [List.length_map, hl] at hb1
    rcases Nat.lt_trichotomy b2 b with z | z | z
    · have := Nat.pow_lt_pow_right (a := 2) (by decide) z; omega
    · exact z
    · have := hb2 b z
      rw [List.length_map, hl] at this
      omega
  rw [e2]
  walk_at "an"
  refine ⟨K2.lt, ?_⟩
  have K3 := K2.put (f := "bits") (v := .int (b : Nat)) (by decide)
  have P3 := P2.put (f := "bits") (v := .int (b : Nat)) rfl
  walk_at "nxt"
  rw [ecD]
  refine ⟨_, _, _, _, rfl, ?_⟩
  rw [← ecD]
  walk_at "an"
  refine ⟨K3.lt, ?_⟩
  have K4 := K3.put (f := "p") (v := .int c.p) (by decide)
  have P4 := P3.put (f := "p") (v := .int c.p) rfl
  walk_at "lst"
  walk_at "an"
  refine ⟨K4.lt, q _ ⟨K4.put (by decide), P4.put rfl, ?_, ?_, ?_, ?_, ?_⟩⟩ <;> simp only [look_put, String.reduceEq, reduceIte] <;> rfl
end Dl

namespace Dl
open PySem L2
local macro_rules | `(tactic| walk_at "dl") => `(tactic| try simp only [dSeq, dSet, dRaise_one, dRaise_two, dTryAs, dXf, dIsE, List.lookup_cons, List.lookup_nil, beq_self_eq_true, Bool.false_eq_true, if_false, dOp, dUn, dVar, dC, dCB, dCons, dNil, dRet, dRetN, dIf, dB, dAnd, dOr, dNot, dDrop, dNext, dMethL, dSetIx, dAndV, dOrV, dNotV, dBlV, dIfE, dLst, dTup, dLstM, dCall, dChain, dAsg, dgName, dgTup, bindD, asT, dFor, diList, diRng1, diRng2, diEnumerate, diZip, diReversed, dLc, dLcM, dYes, wipeD, dAug, dSl, dSlT, dpN, dpS,
  oI, oI0, oB0, oAdd, oNeg, oEq, oNe, oIx, oIsN, oNotN, isNon, oShl, oApp, oPop, oPopAt, cLen, cInt, cAbs, cSum, cMax2, cMin2, cList, cIsi, tyD, asL, asF, asK, moL_lst, ModC, DivC,
  List.getElem?_cons_zero, List.getElem?_cons_succ, List.set_cons_zero, List.set_cons_succ, List.getElem?_nil, List.length_cons, List.length_nil, List.length_map, Option.map_some, Option.bind_some, Option.isSome_some, if_true, true_and, and_true, MM.push])
local macro_rules | `(tactic| walk_at "dx") => `(tactic| try simp only [eq_self_iff_true, okE_int, okE_bl, okE_non, eqD_int, eqD_bl, kq_NoneType_int, kq_NoneType_bool, kq_NoneType_list, kq_NoneType_tuple, kq_NoneType_str, kq_bool_int, kq_bool_bool, kq_bool_list, kq_bool_tuple, kq_bool_str, kq_int_int, kq_int_bool, kq_int_list, kq_int_tuple, kq_int_str, kq_str_int, kq_str_bool, kq_str_list, kq_str_tuple, kq_str_str, kq_list_int, kq_list_bool, kq_list_list, kq_list_tuple, kq_list_str, kq_tuple_int, kq_tuple_bool, kq_tuple_list, kq_tuple_tuple, kq_tuple_str, oInL, oIsB, oNotB, oEqH, oNeH, oShr, oExt, cMaxL, cMinL, cAny, cAll, cTuple, cListM, dRevL, dFld, dSetF, dAugF, dMeth, dMake, moI_ins, app_len, set_app, List.contains_cons, List.contains_nil, Bool.true_or,  Bool.true_eq_false, decide_true, not_true_eq_false, not_false_eq_true, Bool.not_true, Bool.not_false, decide_eq_true_eq, Bool.not_eq_true', decide_eq_false_iff_not, dSeq, dSet, dRaise_one, dRaise_two, dTryAs, dXf, dIsE, List.lookup_cons, List.lookup_nil, beq_self_eq_true, Bool.false_eq_true, if_false, dOp, dUn, dVar, dC, dCB, dCons, dNil, dRet, dRetN, dIf, dB, dAnd, dOr, dNot, dDrop, dNext, dMethL, dSetIx, dAndV, dOrV, dNotV, dBlV, dIfE, dLst, dTup, dLstM, dCall, dChain, dAsg, dgName, dgTup, bindD, asT, dFor, diList, diRng1, diRng2, diEnumerate, diZip, diReversed, dLc, dLcM, dYes, wipeD, dAug, dSl, dSlT, dpN, dpS,
  oI, oI0, oB0, oAdd, oNeg, oEq, oNe, oIx, oIsN, oNotN, isNon, oShl, oApp, oPop, oPopAt, cLen, cInt, cAbs, cSum, cMax2, cMin2, cList, cIsi, tyD, asL, asF, asK, moL_lst, ModC, DivC,
  List.getElem?_cons_zero, List.getElem?_cons_succ, List.set_cons_zero, List.set_cons_succ, List.getElem?_nil, List.length_cons, List.length_nil, List.length_map, Option.map_some, Option.bind_some, Option.isSome_some, if_true, true_and, and_true, MM.push])
local macro_rules | `(tactic| walk_at "lim") => `(tactic| repeat (first | (refine ⟨by decide, ?_⟩) | (refine ⟨by (try simp only [List.length_map, List.length_dropLast, List.length_append, List.length_cons, List.length_nil, List.length_replicate, List.length_take, List.length_drop, List.length_range]); (show _ ≤ 16777216); omega, ?_⟩)))

set_option hygiene false in
local macro_rules | `(tactic| walk_at "stp") => `(tactic| (refine dSeq_k fun k1 h1 => ?_; walk_at "dx"))
set_option hygiene false in
local macro_rules | `(tactic| walk_at "nxt") => `(tactic| (subst h1; (try dsimp only); refine dSeq_k fun k1 h1 => ?_; walk_at "dx"))
set_option hygiene false in
local macro_rules | `(tactic| walk_at "lst") => `(tactic| (subst h1; (try dsimp only); walk_at "dx"))
set_option hygiene false in
local macro_rules | `(tactic| walk_at "nxt2") => `(tactic| (subst h2; (try dsimp only); refine dSeq_k fun k2 h2 => ?_; walk_at "dx"))
set_option hygiene false in
local macro_rules | `(tactic| walk_at "stp2") => `(tactic| (refine dSeq_k fun k2 h2 => ?_; walk_at "dx"))
set_option hygiene false in
local macro_rules | `(tactic| walk_at "lst2") => `(tactic| (subst h2; (try dsimp only); walk_at "dx"))
set_option hygiene false in
local macro_rules | `(tactic| walk_at "an") => `(tactic| (walk_at "dx"; (try simp only [dgTupG, dgsCons, dgsNil, dgFld, asT, dVar, List.length_cons, List.length_nil, List.getElem?_cons_zero, ob, obL, hk, moI_ins, Fl_Answerer.circuit, Fl_Answerer.tables, Fl_Answerer.bits, Fl_Answerer.p, Fl_Answerer.steps, Fl_Answerer.layer, Fl_Answerer.round, Fl_Answerer.wide, Fl_Answerer.gates, Fl_Answerer.near, Fl_Answerer.columns, Fl_Answerer.first, Fl_Answerer.second, Fl_Answerer.share, Fl_Answerer.below, Fl_Answerer.factors, Fl_Answerer.rest, Fl_Answerer.left,
  List.getElem?_set_self, List.set_set, List.length_set, look_put, String.reduceEq, reduceIte, exists_eq_left', Option.some.injEq, true_and, and_true])))

/-! ### what stays as it is -/
structure Fix (s s' : AS) : Prop where
  c : s'.c = s.c
  T : s'.T = s.T
  b : s'.b = s.b
theorem Fix.trans {a b c : AS} (h : Fix a b) (g : Fix b c) : Fix a c := ⟨g.c.trans h.c, g.T.trans h.T, g.b.trans h.b⟩
theorem fix_turn (s : AS) : Fix s (turnF s) := by
  have h1 : Fix s (turn1 s) := by unfold turn1; split <;> exact ⟨rfl, rfl, rfl⟩
  have h2 : ∀ s, Fix s (turn2 s) := fun s => by unfold turn2; split <;> exact ⟨rfl, rfl, rfl⟩
  exact h1.trans (h2 _)
theorem fix_begin (s : AS) (l : Nat) (g : List Int) : Fix s (beginF s l g) := Fix.trans (b := { s with layer := l, round := 0, wide := (gi s.c.ws ((l + 1 : Nat) : Int)).toNat, gates := wgts s.c.p (s.c.ls.getD l []) (pointT (g.drop s.b) s.c.p), near := pointT (g.take s.b) s.c.p, cols := (List.range (colsN s.c (l + 1))).map (fun k => ((s.T.getD (l + 1) []).drop (2 ^ s.b * k)).take (2 ^ s.b)), first := [], second := [] }) ⟨rfl, rfl, rfl⟩ (fix_turn _)
theorem mid_r (s : AS) (z : Int) : (midF s z).round = s.round ∧ (midF s z).wide = s.wide ∧ Fix s (midF s z) := by
  unfold midF
  split
  · exact ⟨rfl, rfl, rfl, rfl, rfl⟩
  · split
    · exact ⟨rfl, rfl, rfl, rfl, rfl⟩
    · exact ⟨rfl, rfl, rfl, rfl, rfl⟩
theorem throw_r (s : AS) (z : Int) : (throwF s z).round = s.round + 1 ∧ (throwF s z).wide = s.wide ∧ Fix s (throwF s z) := by
  have h1 := mid_r s z
  have h2 := turnF_r { midF s z with round := s.round + 1 }
  exact ⟨h2.1, h2.2.2.1.trans h1.2.1, h1.2.2.trans (Fix.trans (b := { midF s z with round := s.round + 1 }) ⟨rfl, rfl, rfl⟩ (fix_turn _))⟩
theorem begin_r (s : AS) (l : Nat) (g : List Int) : (beginF s l g).round = 0 ∧ (beginF s l g).wide = (gi s.c.ws ((l + 1 : Nat) : Int)).toNat := by
  have h2 := turnF_r { s with layer := l, round := 0, wide := (gi s.c.ws ((l + 1 : Nat) : Int)).toNat, gates := wgts s.c.p (s.c.ls.getD l []) (pointT (g.drop s.b) s.c.p), near := pointT (g.take s.b) s.c.p, cols := (List.range (colsN s.c (l + 1))).map (fun k => ((s.T.getD (l + 1) []).drop (2 ^ s.b * k)).take (2 ^ s.b)), first := [], second := [] }
  exact ⟨h2.1, h2.2.2.1⟩
theorem AnsOK.a0 {fs : List (String × D)} {s : AS} (h : AnsOK fs s) : A0 fs s := h.a1.toA0
theorem AnsOK.poly {fs : List (String × D)} {s : AS} (h : AnsOK fs s) : AnsOK (putD "steps" (.int (polyS s).steps) fs) (polyS s) := ⟨h.a1.st _, h.v1.st _, fun e => by
  obtain ⟨x, y⟩ := h.two e
  exact ⟨x.st _, y.st _⟩⟩
/-! ### a layer's answers, all answers -/
theorem cutRM {xs : List D} {a b : Nat} : cutD xs (some (a : Nat)) (some (b : Nat)) = (xs.drop a).take (b - a) := by
  unfold cutD
  rw [HT.sIx_nat, HT.sIx_nat]
  by_cases h : a ≤ xs.length
  · rw [Nat.min_eq_left h]
    by_cases h2 : b ≤ xs.length
    · rw [Nat.min_eq_left h2]
    · rw [Nat.min_eq_right (by omega), List.take_of_length_le (by rw [List.length_drop]; omega), List.take_of_length_le (by rw [List.length_drop]; omega)]
  · rw [show min a xs.length = xs.length by omega, List.drop_length, List.drop_eq_nil_of_le (show xs.length ≤ a by omega), List.take_nil, List.take_nil]
/-- the widths as numbers -/
def wN (c : Cir) (i : Nat) : Nat := (gi c.ws (i : Nat)).toNat
theorem wN_eq {c : Cir} {most wide : Nat} (hc : CirOK c most wide) {i : Nat} (h : i ≤ c.ls.length) : ((wN c i : Nat) : Int) = gi c.ws (i : Nat) := by
  have hwl := hc.wl
  have := hc.w0 _ (gi_mem (show i < c.ws.length by omega))
  unfold wN
  omega
end Dl

namespace Dl
open PySem L2
local macro_rules | `(tactic| walk_at "dl") => `(tactic| try simp only [dSeq, dSet, dRaise_one, dRaise_two, dTryAs, dXf, dIsE, List.lookup_cons, List.lookup_nil, beq_self_eq_true, Bool.false_eq_true, if_false, dOp, dUn, dVar, dC, dCB, dCons, dNil, dRet, dRetN, dIf, dB, dAnd, dOr, dNot, dDrop, dNext, dMethL, dSetIx, dAndV, dOrV, dNotV, dBlV, dIfE, dLst, dTup, dLstM, dCall, dChain, dAsg, dgName, dgTup, bindD, asT, dFor, diList, diRng1, diRng2, diEnumerate, diZip, diReversed, dLc, dLcM, dYes, wipeD, dAug, dSl, dSlT, dpN, dpS,
  oI, oI0, oB0, oAdd, oNeg, oEq, oNe, oIx, oIsN, oNotN, isNon, oShl, oApp, oPop, oPopAt, cLen, cInt, cAbs, cSum, cMax2, cMin2, cList, cIsi, tyD, asL, asF, asK, moL_lst, ModC, DivC,
  List.getElem?_cons_zero, List.getElem?_cons_succ, List.set_cons_zero, List.set_cons_succ, List.getElem?_nil, List.length_cons, List.length_nil, List.length_map, Option.map_some, Option.bind_some, Option.isSome_some, if_true, true_and, and_true, MM.push])
local macro_rules | `(tactic| walk_at "dx") => `(tactic| try simp only [eq_self_iff_true, okE_int, okE_bl, okE_non, eqD_int, eqD_bl, kq_NoneType_int, kq_NoneType_bool, kq_NoneType_list, kq_NoneType_tuple, kq_NoneType_str, kq_bool_int, kq_bool_bool, kq_bool_list, kq_bool_tuple, kq_bool_str, kq_int_int, kq_int_bool, kq_int_list, kq_int_tuple, kq_int_str, kq_str_int, kq_str_bool, kq_str_list, kq_str_tuple, kq_str_str, kq_list_int, kq_list_bool, kq_list_list, kq_list_tuple, kq_list_str, kq_tuple_int, kq_tuple_bool, kq_tuple_list, kq_tuple_tuple, kq_tuple_str, oInL, oIsB, oNotB, oEqH, oNeH, oShr, oExt, cMaxL, cMinL, cAny, cAll, cTuple, cListM, dRevL, dFld, dSetF, dAugF, dMeth, dMake, moI_ins, app_len, set_app, List.contains_cons, List.contains_nil, Bool.true_or,  Bool.true_eq_false, decide_true, not_true_eq_false, not_false_eq_true, Bool.not_true, Bool.not_false, decide_eq_true_eq, Bool.not_eq_true', decide_eq_false_iff_not, dSeq, dSet, dRaise_one, dRaise_two, dTryAs, dXf, dIsE, List.lookup_cons, List.lookup_nil, beq_self_eq_true, Bool.false_eq_true, if_false, dOp, dUn, dVar, dC, dCB, dCons, dNil, dRet, dRetN, dIf, dB, dAnd, dOr, dNot, dDrop, dNext, dMethL, dSetIx, dAndV, dOrV, dNotV, dBlV, dIfE, dLst, dTup, dLstM, dCall, dChain, dAsg, dgName, dgTup, bindD, asT, dFor, diList, diRng1, diRng2, diEnumerate, diZip, diReversed, dLc, dLcM, dYes, wipeD, dAug, dSl, dSlT, dpN, dpS,
  oI, oI0, oB0, oAdd, oNeg, oEq, oNe, oIx, oIsN, oNotN, isNon, oShl, oApp, oPop, oPopAt, cLen, cInt, cAbs, cSum, cMax2, cMin2, cList, cIsi, tyD, asL, asF, asK, moL_lst, ModC, DivC,
  List.getElem?_cons_zero, List.getElem?_cons_succ, List.set_cons_zero, List.set_cons_succ, List.getElem?_nil, List.length_cons, List.length_nil, List.length_map, Option.map_some, Option.bind_some, Option.isSome_some, if_true, true_and, and_true, MM.push])
local macro_rules | `(tactic| walk_at "lim") => `(tactic| repeat (first | (refine ⟨by decide, ?_⟩) | (refine ⟨by (try simp only [List.length_map, List.length_dropLast, List.length_append, List.length_cons, List.length_nil, List.length_replicate, List.length_take, List.length_drop, List.length_range]); (show _ ≤ 16777216); omega, ?_⟩)))

set_option hygiene false in
local macro_rules | `(tactic| walk_at "stp") => `(tactic| (refine dSeq_k fun k1 h1 => ?_; walk_at "dx"))
set_option hygiene false in
local macro_rules | `(tactic| walk_at "nxt") => `(tactic| (subst h1; (try dsimp only); refine dSeq_k fun k1 h1 => ?_; walk_at "dx"))
set_option hygiene false in
local macro_rules | `(tactic| walk_at "lst") => `(tactic| (subst h1; (try dsimp only); walk_at "dx"))
set_option hygiene false in
local macro_rules | `(tactic| walk_at "nxt2") => `(tactic| (subst h2; (try dsimp only); refine dSeq_k fun k2 h2 => ?_; walk_at "dx"))
set_option hygiene false in
local macro_rules | `(tactic| walk_at "stp2") => `(tactic| (refine dSeq_k fun k2 h2 => ?_; walk_at "dx"))
set_option hygiene false in
local macro_rules | `(tactic| walk_at "lst2") => `(tactic| (subst h2; (try dsimp only); walk_at "dx"))

/-! ### the states in themselves -/
structure OKs (s : AS) : Prop where
  v1 : V1 s
  v2 : s.b ≤ s.round → V2 s (leftL s)
theorem V2.same {s s' : AS} {L : Nat} (h : V2 s L) (e : (s'.c, s'.wide, s'.share, s'.below, s'.fac, s'.rest, s'.left) = (s.c, s.wide, s.share, s.below, s.fac, s.rest, s.left)) : V2 s' L := by
  simp only [Prod.mk.injEq] at e
  obtain ⟨e1, e2, e3, e4, e5, e6, e7⟩ := e
  exact ⟨by rw [e3, e1]; exact h.share, by rw [e4, e1]; exact h.below, by rw [e4, e2]; exact h.bl, by rw [e5, e1]; exact h.fac, by rw [e5]; exact h.facl, by rw [e6, e1]; exact h.rest, by rw [e6]; exact h.restl, by rw [e7, e1]; exact h.left, by rw [e7]; exact h.leftl⟩
theorem turn2_v2 {s : AS} (v1 : V1 s) (v2 : V2 s (leftP s)) (h : s.b ≤ s.round) : V2 (turn2 s) (leftL (turn2 s)) := by
  obtain ⟨q1, q2, q3, q4⟩ := turn2_r s
  have hp1 := v1.pm.1
  have hL : ∀ t : AS, t.round = s.round → t.b = s.b → t.wide = s.wide → leftL t = leftL s := fun t e1 e2 e3 => by unfold leftL; rw [e1, e2, e3]
  rw [hL _ q1 q2 q3]
  by_cases e : s.round = s.b + s.wide
  · have t2 : turn2 s = { s with fac := ft2 s.c.p (pointT s.first s.c.p) (gi s.left 0) s.gates (zer s.below.length), rest := rs2 s.c.p (pointT s.first s.c.p) (gi s.left 0) s.gates (zer s.below.length), left := s.below, steps := s.steps + (s.gates.length : Nat) } := if_pos e
    have k1 := foldset_ok hp1 (fun g : WG => g.y.toNat) (fun f g => gi f g.y + gi (pointT s.first s.c.p) g.x * (g.b + g.c * gi s.left 0)) s.gates (zer s.below.length) (zer_in hp1)
    have k2 := foldset_ok hp1 (fun g : WG => g.y.toNat) (fun f g => gi f g.y + gi (pointT s.first s.c.p) g.x * g.a % s.c.p * gi s.left 0) s.gates (zer s.below.length) (zer_in hp1)
    rw [zer_len, v2.bl] at k1 k2
    have hL : leftL s = 2 ^ s.wide := by
      unfold leftL
      rw [if_neg (by omega), show s.wide - (s.round - s.b - s.wide) = s.wide by omega]
    rw [t2]
    refine ⟨v2.share, v2.below, v2.bl, ?_, ?_, ?_, ?_, v2.below, ?_⟩
    · show InP _ (ft2 _ _ _ _ _); rw [v2.bl]; exact k1.2
    · show (ft2 _ _ _ _ _).length = leftL s; rw [hL, v2.bl]; exact k1.1
    · show InP _ (rs2 _ _ _ _ _); rw [v2.bl]; exact k2.2
    · show (rs2 _ _ _ _ _).length = leftL s; rw [hL, v2.bl]; exact k2.1
    · show s.below.length = leftL s; rw [hL, v2.bl]
  · have t2 : turn2 s = s := if_neg e
    rw [t2]
    have : leftP s = leftL s := by
      unfold leftP leftL
      by_cases z : s.round < s.b + s.wide
      · rw [if_pos (by omega), if_pos z]
      · rw [if_neg (by omega), if_neg z]
    rw [← this]; exact v2
theorem turn_ok {s : AS} (v1 : V1 s) (v2 : s.b < s.round → V2 s (leftP s)) : OKs (turnF s) := by
  have tr := turnF_r s
  have t1r := turn1_r s
  refine ⟨turn2_v1 (turn1_v1 v1), fun h => ?_⟩
  rw [tr.1, tr.2.1] at h
  refine turn2_v2 (turn1_v1 v1) ?_ (by rw [t1r.1, t1r.2.1]; exact h)
  have hP : leftP (turn1 s) = leftP s := by unfold leftP; rw [t1r.1, t1r.2.1, t1r.2.2.1]
  rw [hP]
  by_cases e : s.round = s.b
  · have : leftP s = 2 ^ s.wide := by
      unfold leftP
      rw [if_pos (by omega), e, Nat.sub_self, Nat.sub_zero]
    rw [this]
    exact turn1_v2 v1 e
  · have t1 : turn1 s = s := if_neg e
    rw [t1]
    exact v2 (by omega)
theorem OKs.poly {s : AS} (h : OKs s) : OKs (polyS s) := ⟨h.v1.st _, fun e => (h.v2 e).st _⟩
theorem OKs.throw {s : AS} (ok : OKs s) {z : Int} (z0 : 0 ≤ z) (z1 : z < s.c.p) : OKs (throwF s z) := by
  have v1 := ok.v1
  have hp := v1.pm
  have hp1 := hp.1
  have mr := mid_r s z
  have nl := v1.nl
  have fle := v1.fl
  have sle := v1.sl
  unfold throwF
  by_cases hb : s.round < s.b
  · have em : midF s z = { s with near := foldS s.c.p s.near z, cols := s.cols.map fun c => foldS s.c.p c z } := if_pos hb
    have hh : 2 ^ (s.b - s.round) / 2 = 2 ^ (s.b - (s.round + 1)) := by rw [two_half (by omega)]; congr 1
    refine turn_ok ?_ fun h => ?_
    · rw [em]
      refine ⟨hp, v1.b3, v1.w3, v1.g, v1.gl, foldS_in hp1, ?_, ?_, fun c hc => ?_, v1.f, ?_, v1.sn, ?_⟩
      · show (foldS _ _ _).length = _
        rw [foldS_len, v1.nl]; exact hh
      · show (s.cols.map _).length = _
        rw [List.length_map, v1.cl]
      · obtain ⟨c0, h0, rfl⟩ := List.mem_map.mp hc
        exact ⟨foldS_in hp1, by rw [foldS_len, (v1.col c0 h0).2]; exact hh⟩
      · show s.first.length = min (s.round + 1 - s.b) s.wide
        omega
      · show s.second.length = min (s.round + 1 - s.b - s.wide) s.wide
        omega
    · have h : (midF s z).b < s.round + 1 := h
      rw [mr.2.2.b] at h; omega
  have v2 := ok.v2 (by omega)
  have hn0 : s.b - (s.round + 1) = s.b - s.round := by omega
  by_cases hw : s.round < s.b + 2 * s.wide
  · have em : midF s z = { s with fac := foldS s.c.p s.fac z, rest := foldS s.c.p s.rest z, left := foldS s.c.p s.left z, first := if s.round < s.b + s.wide then s.first ++ [z] else s.first, second := if s.round < s.b + s.wide then s.second else s.second ++ [z] } := by
      unfold midF; rw [if_neg hb, if_pos hw]
    have zin : ∀ xs : List Int, InP s.c.p xs → InP s.c.p (xs ++ [z]) := fun xs h x hx => by
      rcases List.mem_append.mp hx with y | y
      · exact h x y
      · rw [List.mem_singleton.mp y]; exact ⟨z0, z1⟩
    have V1a : (∀ f' s', f' = (if s.round < s.b + s.wide then s.first ++ [z] else s.first) → s' = (if s.round < s.b + s.wide then s.second else s.second ++ [z]) → InP s.c.p f' ∧ f'.length = min (s.round + 1 - s.b) s.wide ∧ InP s.c.p s' ∧ s'.length = min (s.round + 1 - s.b - s.wide) s.wide) := by
      rintro f' s' rfl rfl
      by_cases y : s.round < s.b + s.wide
      · rw [if_pos y, if_pos y]
        refine ⟨zin _ v1.f, ?_, v1.sn, by omega⟩
        rw [List.length_append]; show s.first.length + 1 = _; omega
      · rw [if_neg y, if_neg y]
        refine ⟨v1.f, by omega, zin _ v1.sn, ?_⟩
        rw [List.length_append]; show s.second.length + 1 = _; omega
    have hL1 : leftL s / 2 = leftP { midF s z with round := s.round + 1 } := by
      have e1 : leftP { midF s z with round := s.round + 1 } = if s.round + 1 ≤ s.b + s.wide then 2 ^ (s.wide - (s.round + 1 - s.b)) else 2 ^ (s.wide - (s.round + 1 - s.b - s.wide)) := by
        unfold leftP
        show (if s.round + 1 ≤ (midF s z).b + (midF s z).wide then _ else _) = _
        rw [mr.2.2.b, mr.2.1]
      rw [e1]
      unfold leftL
      by_cases y : s.round < s.b + s.wide
      · rw [if_pos y, if_pos (by omega), two_half (by omega)]; congr 1; omega
      · rw [if_neg y, if_neg (by omega), two_half (by omega)]; congr 1; omega
    refine turn_ok ?_ fun _ => ?_
    · obtain ⟨q1, q2, q3, q4⟩ := V1a _ _ rfl rfl
      rw [em]
      exact ⟨hp, v1.b3, v1.w3, v1.g, v1.gl, v1.near, by show s.near.length = 2 ^ (s.b - (s.round + 1)); rw [nl, hn0], v1.cl, fun c hc => ⟨(v1.col c hc).1, by show c.length = 2 ^ (s.b - (s.round + 1)); rw [(v1.col c hc).2, hn0]⟩, q1, q2, q3, q4⟩
    · rw [← hL1]
      rw [em]
      refine ⟨v2.share, v2.below, v2.bl, foldS_in hp1, ?_, foldS_in hp1, ?_, foldS_in hp1, ?_⟩
      · show (foldS _ _ _).length = _
        rw [foldS_len, v2.facl]
      · show (foldS _ _ _).length = _
        rw [foldS_len, v2.restl]
      · show (foldS _ _ _).length = _
        rw [foldS_len, v2.leftl]
  · have em : midF s z = s := by unfold midF; rw [if_neg hb, if_neg hw]
    rw [em]
    refine turn_ok ?_ fun _ => ?_
    · refine ⟨hp, v1.b3, v1.w3, v1.g, v1.gl, v1.near, by show s.near.length = _; rw [nl]; exact congrArg _ hn0.symm, v1.cl, fun c hc => ⟨(v1.col c hc).1, by rw [(v1.col c hc).2]; exact congrArg _ hn0.symm⟩, v1.f, ?_, v1.sn, ?_⟩
      · show s.first.length = min (s.round + 1 - s.b) s.wide
        omega
      · show s.second.length = min (s.round + 1 - s.b - s.wide) s.wide
        omega
    · have e1 : leftP { s with round := s.round + 1 } = leftL s := by
        unfold leftP leftL
        show (if s.round + 1 ≤ s.b + s.wide then 2 ^ (s.wide - (s.round + 1 - s.b)) else 2 ^ (s.wide - (s.round + 1 - s.b - s.wide))) = _
        rw [if_neg (by omega), if_neg (by omega)]
        congr 1; omega
      rw [e1]
      exact v2.same rfl
/-! ### the steps -/
end Dl

namespace Dl
open PySem L2
local macro_rules | `(tactic| walk_at "dl") => `(tactic| try simp only [dSeq, dSet, dRaise_one, dRaise_two, dTryAs, dXf, dIsE, List.lookup_cons, List.lookup_nil, beq_self_eq_true, Bool.false_eq_true, if_false, dOp, dUn, dVar, dC, dCB, dCons, dNil, dRet, dRetN, dIf, dB, dAnd, dOr, dNot, dDrop, dNext, dMethL, dSetIx, dAndV, dOrV, dNotV, dBlV, dIfE, dLst, dTup, dLstM, dCall, dChain, dAsg, dgName, dgTup, bindD, asT, dFor, diList, diRng1, diRng2, diEnumerate, diZip, diReversed, dLc, dLcM, dYes, wipeD, dAug, dSl, dSlT, dpN, dpS,
  oI, oI0, oB0, oAdd, oNeg, oEq, oNe, oIx, oIsN, oNotN, isNon, oShl, oApp, oPop, oPopAt, cLen, cInt, cAbs, cSum, cMax2, cMin2, cList, cIsi, tyD, asL, asF, asK, moL_lst, ModC, DivC,
  List.getElem?_cons_zero, List.getElem?_cons_succ, List.set_cons_zero, List.set_cons_succ, List.getElem?_nil, List.length_cons, List.length_nil, List.length_map, Option.map_some, Option.bind_some, Option.isSome_some, if_true, true_and, and_true, MM.push])
local macro_rules | `(tactic| walk_at "dx") => `(tactic| try simp only [eq_self_iff_true, okE_int, okE_bl, okE_non, eqD_int, eqD_bl, kq_NoneType_int, kq_NoneType_bool, kq_NoneType_list, kq_NoneType_tuple, kq_NoneType_str, kq_bool_int, kq_bool_bool, kq_bool_list, kq_bool_tuple, kq_bool_str, kq_int_int, kq_int_bool, kq_int_list, kq_int_tuple, kq_int_str, kq_str_int, kq_str_bool, kq_str_list, kq_str_tuple, kq_str_str, kq_list_int, kq_list_bool, kq_list_list, kq_list_tuple, kq_list_str, kq_tuple_int, kq_tuple_bool, kq_tuple_list, kq_tuple_tuple, kq_tuple_str, oInL, oIsB, oNotB, oEqH, oNeH, oShr, oExt, cMaxL, cMinL, cAny, cAll, cTuple, cListM, dRevL, dFld, dSetF, dAugF, dMeth, dMake, moI_ins, app_len, set_app, List.contains_cons, List.contains_nil, Bool.true_or,  Bool.true_eq_false, decide_true, not_true_eq_false, not_false_eq_true, Bool.not_true, Bool.not_false, decide_eq_true_eq, Bool.not_eq_true', decide_eq_false_iff_not, dSeq, dSet, dRaise_one, dRaise_two, dTryAs, dXf, dIsE, List.lookup_cons, List.lookup_nil, beq_self_eq_true, Bool.false_eq_true, if_false, dOp, dUn, dVar, dC, dCB, dCons, dNil, dRet, dRetN, dIf, dB, dAnd, dOr, dNot, dDrop, dNext, dMethL, dSetIx, dAndV, dOrV, dNotV, dBlV, dIfE, dLst, dTup, dLstM, dCall, dChain, dAsg, dgName, dgTup, bindD, asT, dFor, diList, diRng1, diRng2, diEnumerate, diZip, diReversed, dLc, dLcM, dYes, wipeD, dAug, dSl, dSlT, dpN, dpS,
  oI, oI0, oB0, oAdd, oNeg, oEq, oNe, oIx, oIsN, oNotN, isNon, oShl, oApp, oPop, oPopAt, cLen, cInt, cAbs, cSum, cMax2, cMin2, cList, cIsi, tyD, asL, asF, asK, moL_lst, ModC, DivC,
  List.getElem?_cons_zero, List.getElem?_cons_succ, List.set_cons_zero, List.set_cons_succ, List.getElem?_nil, List.length_cons, List.length_nil, List.length_map, Option.map_some, Option.bind_some, Option.isSome_some, if_true, true_and, and_true, MM.push])
local macro_rules | `(tactic| walk_at "lim") => `(tactic| repeat (first | (refine ⟨by decide, ?_⟩) | (refine ⟨by (try simp only [List.length_map, List.length_dropLast, List.length_append, List.length_cons, List.length_nil, List.length_replicate, List.length_take, List.length_drop, List.length_range]); (show _ ≤ 16777216); omega, ?_⟩)))

set_option hygiene false in
local macro_rules | `(tactic| walk_at "stp") => `(tactic| (refine dSeq_k fun k1 h1 => ?_; walk_at "dx"))
set_option hygiene false in
local macro_rules | `(tactic| walk_at "nxt") => `(tactic| (subst h1; (try dsimp only); refine dSeq_k fun k1 h1 => ?_; walk_at "dx"))
set_option hygiene false in
local macro_rules | `(tactic| walk_at "lst") => `(tactic| (subst h1; (try dsimp only); walk_at "dx"))
set_option hygiene false in
local macro_rules | `(tactic| walk_at "nxt2") => `(tactic| (subst h2; (try dsimp only); refine dSeq_k fun k2 h2 => ?_; walk_at "dx"))
set_option hygiene false in
local macro_rules | `(tactic| walk_at "stp2") => `(tactic| (refine dSeq_k fun k2 h2 => ?_; walk_at "dx"))
set_option hygiene false in
local macro_rules | `(tactic| walk_at "lst2") => `(tactic| (subst h2; (try dsimp only); walk_at "dx"))

/-! ### sums over corners -/
theorem S_congr {f g : Nat → Int} : ∀ n : Nat, (∀ i < n, f i = g i) → S n f = S n g
  | 0, _ => rfl
  | n + 1, h => by show S n f + f n = S n g + g n; rw [S_congr n fun i hi => h i (by omega), h n (by omega)]
theorem wt_corn : ∀ (n k z : Nat), k < 2 ^ n → z < 2 ^ n → wt (corn k n) z = if z = k then 1 else 0
  | 0, k, z, hk, hz => by
    have e1 : k = 0 := by simpa using hk
    have e2 : z = 0 := by simpa using hz
    rw [if_pos (by omega)]; rfl
  | n + 1, k, z, hk, hz => by
    rw [Nat.pow_succ] at hk hz
    rw [corn_succ]
    show (if z % 2 = 1 then _ else _) * wt _ (z / 2) = _
    rw [wt_corn n (k / 2) (z / 2) (by omega) (by omega)]
    by_cases h : z = k
    · subst h
      rw [if_pos rfl, if_pos rfl]
      rcases (show z % 2 = 0 ∨ z % 2 = 1 by omega) with h | h <;> rw [h] <;> simp
    · rw [if_neg h]
      by_cases h2 : z / 2 = k / 2
      · rw [if_pos h2]
        rcases (show z % 2 = 0 ∨ z % 2 = 1 by omega) with h3 | h3
        · have : k % 2 = 1 := by omega
          rw [h3, this]; simp
        · have : k % 2 = 0 := by omega
          rw [h3, this]; simp
      · rw [if_neg h2, Int.mul_zero]
theorem corn_len {i n : Nat} : (corn i n).length = n := by unfold corn; rw [List.length_map, List.length_range]
def mle (T pt : List Int) : Int := S (2 ^ pt.length) fun z => wt pt z * gi T (z : Nat)
theorem mle_nil {T : List Int} : mle T [] = gi T 0 := by show 0 + 1 * gi T 0 = _; omega
theorem wt_lo {x : Int} {r : List Int} {i : Nat} : wt (x :: r) (2 * i) = (1 - x) * wt r i := by
  show (if 2 * i % 2 = 1 then x else 1 - x) * wt r (2 * i / 2) = _
  rw [if_neg (by omega), show 2 * i / 2 = i by omega]
theorem wt_hi {x : Int} {r : List Int} {i : Nat} : wt (x :: r) (2 * i + 1) = x * wt r i := by
  show (if (2 * i + 1) % 2 = 1 then x else 1 - x) * wt r ((2 * i + 1) / 2) = _
  rw [if_pos (by omega), show (2 * i + 1) / 2 = i by omega]
theorem mle_at {T : List Int} {x : Int} {r : List Int} : mle T (x :: r) = S (2 ^ r.length) fun i => wt r i * atN T i x := by
  unfold mle
  rw [List.length_cons, Nat.pow_succ, Nat.mul_comm, S_pair]
  refine S_congr _ fun i _ => ?_
  rw [wt_lo, wt_hi]
  unfold atN
  rw [show ((2 * i : Nat) : Int) = 2 * (i : Nat) by omega, show ((2 * i + 1 : Nat) : Int) = 2 * (i : Nat) + 1 by omega]
  grind
theorem foldS_at {p x : Int} {T : List Int} {i : Nat} (h : i < T.length / 2) : gi (foldS p T x) (i : Nat) = atN T i x % p := by
  unfold foldS
  rw [gi_range h]; rfl
theorem mle_cons {p x : Int} {T r : List Int} (h : T.length = 2 ^ (r.length + 1)) : Cg p (mle T (x :: r)) (mle (foldS p T x) r) := by
  rw [mle_at]
  unfold mle
  rw [Nat.pow_succ] at h
  refine S_cg _ fun i hi => ?_
  rw [foldS_at (by omega)]
  exact Cg.mul .refl Cg.mod.symm
theorem mle_app {p : Int} : ∀ (r s T : List Int), T.length = 2 ^ (r.length + s.length) → Cg p (mle T (r ++ s)) (mle (r.foldl (foldS p) T) s)
  | [], _, _, _ => .refl
  | x :: r, s, T, h => by
    rw [List.length_cons, show r.length + 1 + s.length = (r.length + s.length) + 1 by omega] at h
    refine (mle_cons (r := r ++ s) (by rw [List.length_append]; exact h)).trans ?_
    rw [Nat.pow_succ] at h
    exact mle_app r s _ (by rw [foldS_len]; omega)
theorem S_corn {f : Nat → Int} {i l : Nat} (hi : i < 2 ^ l) : S (2 ^ l) (fun z => wt (corn i l) z * f z) = f i := by
  rw [S_congr (g := fun z => if z = i then f i else 0) (2 ^ l) fun z hz => by
    rw [wt_corn l i z hi hz]
    by_cases e : z = i
    · rw [if_pos e, if_pos e, e]; omega
    · rw [if_neg e, if_neg e, Int.zero_mul]]
  rw [S_one (i := i) (fun k hk => if_neg hk), if_pos hi, if_pos rfl]
/-! ### the gates' sums -/
end Dl

namespace Dl
open PySem L2
local macro_rules | `(tactic| walk_at "dl") => `(tactic| try simp only [dSeq, dSet, dRaise_one, dRaise_two, dTryAs, dXf, dIsE, List.lookup_cons, List.lookup_nil, beq_self_eq_true, Bool.false_eq_true, if_false, dOp, dUn, dVar, dC, dCB, dCons, dNil, dRet, dRetN, dIf, dB, dAnd, dOr, dNot, dDrop, dNext, dMethL, dSetIx, dAndV, dOrV, dNotV, dBlV, dIfE, dLst, dTup, dLstM, dCall, dChain, dAsg, dgName, dgTup, bindD, asT, dFor, diList, diRng1, diRng2, diEnumerate, diZip, diReversed, dLc, dLcM, dYes, wipeD, dAug, dSl, dSlT, dpN, dpS,
  oI, oI0, oB0, oAdd, oNeg, oEq, oNe, oIx, oIsN, oNotN, isNon, oShl, oApp, oPop, oPopAt, cLen, cInt, cAbs, cSum, cMax2, cMin2, cList, cIsi, tyD, asL, asF, asK, moL_lst, ModC, DivC,
  List.getElem?_cons_zero, List.getElem?_cons_succ, List.set_cons_zero, List.set_cons_succ, List.getElem?_nil, List.length_cons, List.length_nil, List.length_map, Option.map_some, Option.bind_some, Option.isSome_some, if_true, true_and, and_true, MM.push])
local macro_rules | `(tactic| walk_at "dx") => `(tactic| try simp only [eq_self_iff_true, okE_int, okE_bl, okE_non, eqD_int, eqD_bl, kq_NoneType_int, kq_NoneType_bool, kq_NoneType_list, kq_NoneType_tuple, kq_NoneType_str, kq_bool_int, kq_bool_bool, kq_bool_list, kq_bool_tuple, kq_bool_str, kq_int_int, kq_int_bool, kq_int_list, kq_int_tuple, kq_int_str, kq_str_int, kq_str_bool, kq_str_list, kq_str_tuple, kq_str_str, kq_list_int, kq_list_bool, kq_list_list, kq_list_tuple, kq_list_str, kq_tuple_int, kq_tuple_bool, kq_tuple_list, kq_tuple_tuple, kq_tuple_str, oInL, oIsB, oNotB, oEqH, oNeH, oShr, oExt, cMaxL, cMinL, cAny, cAll, cTuple, cListM, dRevL, dFld, dSetF, dAugF, dMeth, dMake, moI_ins, app_len, set_app, List.contains_cons, List.contains_nil, Bool.true_or,  Bool.true_eq_false, decide_true, not_true_eq_false, not_false_eq_true, Bool.not_true, Bool.not_false, decide_eq_true_eq, Bool.not_eq_true', decide_eq_false_iff_not, dSeq, dSet, dRaise_one, dRaise_two, dTryAs, dXf, dIsE, List.lookup_cons, List.lookup_nil, beq_self_eq_true, Bool.false_eq_true, if_false, dOp, dUn, dVar, dC, dCB, dCons, dNil, dRet, dRetN, dIf, dB, dAnd, dOr, dNot, dDrop, dNext, dMethL, dSetIx, dAndV, dOrV, dNotV, dBlV, dIfE, dLst, dTup, dLstM, dCall, dChain, dAsg, dgName, dgTup, bindD, asT, dFor, diList, diRng1, diRng2, diEnumerate, diZip, diReversed, dLc, dLcM, dYes, wipeD, dAug, dSl, dSlT, dpN, dpS,
  oI, oI0, oB0, oAdd, oNeg, oEq, oNe, oIx, oIsN, oNotN, isNon, oShl, oApp, oPop, oPopAt, cLen, cInt, cAbs, cSum, cMax2, cMin2, cList, cIsi, tyD, asL, asF, asK, moL_lst, ModC, DivC,
  List.getElem?_cons_zero, List.getElem?_cons_succ, List.set_cons_zero, List.set_cons_succ, List.getElem?_nil, List.length_cons, List.length_nil, List.length_map, Option.map_some, Option.bind_some, Option.isSome_some, if_true, true_and, and_true, MM.push])
local macro_rules | `(tactic| walk_at "lim") => `(tactic| repeat (first | (refine ⟨by decide, ?_⟩) | (refine ⟨by (try simp only [List.length_map, List.length_dropLast, List.length_append, List.length_cons, List.length_nil, List.length_replicate, List.length_take, List.length_drop, List.length_range]); (show _ ≤ 16777216); omega, ?_⟩)))

set_option hygiene false in
local macro_rules | `(tactic| walk_at "stp") => `(tactic| (refine dSeq_k fun k1 h1 => ?_; walk_at "dx"))
set_option hygiene false in
local macro_rules | `(tactic| walk_at "nxt") => `(tactic| (subst h1; (try dsimp only); refine dSeq_k fun k1 h1 => ?_; walk_at "dx"))
set_option hygiene false in
local macro_rules | `(tactic| walk_at "lst") => `(tactic| (subst h1; (try dsimp only); walk_at "dx"))
set_option hygiene false in
local macro_rules | `(tactic| walk_at "nxt2") => `(tactic| (subst h2; (try dsimp only); refine dSeq_k fun k2 h2 => ?_; walk_at "dx"))
set_option hygiene false in
local macro_rules | `(tactic| walk_at "stp2") => `(tactic| (refine dSeq_k fun k2 h2 => ?_; walk_at "dx"))
set_option hygiene false in
local macro_rules | `(tactic| walk_at "lst2") => `(tactic| (subst h2; (try dsimp only); walk_at "dx"))

/-! ### the state by the throws so far -/
def fl1 (p : Int) (r t : List Int) : List Int := r.foldl (foldS p) t
structure Base (s : AS) (gs : List WG) (P1 : List Int) (C0 : List (List Int)) (r : List Int) : Prop where
  gates : s.gates = gs
  round : s.round = r.length
  near : s.near = fl1 s.c.p (r.take s.b) P1
  cols : s.cols = C0.map fun q => fl1 s.c.p (r.take s.b) q
  first : s.first = (r.drop s.b).take s.wide
  second : s.second = (r.drop (s.b + s.wide)).take s.wide
structure PhS (s : AS) : Prop where
  share : s.share = gi s.near 0
  below : s.below = s.cols.map fun c => gi c 0
structure Ph1 (s : AS) (r : List Int) : Prop extends PhS s where
  fac : s.fac = fl1 s.c.p (r.drop s.b) (ft1 s.c.p s.below s.gates (zer s.below.length))
  rest : s.rest = fl1 s.c.p (r.drop s.b) (rs1 s.c.p s.below s.gates (zer s.below.length))
  left : s.left = fl1 s.c.p (r.drop s.b) s.below
structure Ph2 (s : AS) (r : List Int) : Prop extends PhS s where
  fac : s.fac = fl1 s.c.p ((r.drop (s.b + s.wide)).take s.wide) (ft2 s.c.p (pointT s.first s.c.p) (gi (fl1 s.c.p ((r.drop s.b).take s.wide) s.below) 0) s.gates (zer s.below.length))
  rest : s.rest = fl1 s.c.p ((r.drop (s.b + s.wide)).take s.wide) (rs2 s.c.p (pointT s.first s.c.p) (gi (fl1 s.c.p ((r.drop s.b).take s.wide) s.below) 0) s.gates (zer s.below.length))
  left : s.left = fl1 s.c.p ((r.drop (s.b + s.wide)).take s.wide) s.below
structure Inv (s : AS) (gs : List WG) (P1 : List Int) (C0 : List (List Int)) (r : List Int) : Prop where
  base : Base s gs P1 C0 r
  one : s.b ≤ r.length → r.length < s.b + s.wide → Ph1 s r
  two : s.b + s.wide ≤ r.length → Ph2 s r
end Dl

namespace Dl
open PySem L2
local macro_rules | `(tactic| walk_at "dl") => `(tactic| try simp only [dSeq, dSet, dRaise_one, dRaise_two, dTryAs, dXf, dIsE, List.lookup_cons, List.lookup_nil, beq_self_eq_true, Bool.false_eq_true, if_false, dOp, dUn, dVar, dC, dCB, dCons, dNil, dRet, dRetN, dIf, dB, dAnd, dOr, dNot, dDrop, dNext, dMethL, dSetIx, dAndV, dOrV, dNotV, dBlV, dIfE, dLst, dTup, dLstM, dCall, dChain, dAsg, dgName, dgTup, bindD, asT, dFor, diList, diRng1, diRng2, diEnumerate, diZip, diReversed, dLc, dLcM, dYes, wipeD, dAug, dSl, dSlT, dpN, dpS,
  oI, oI0, oB0, oAdd, oNeg, oEq, oNe, oIx, oIsN, oNotN, isNon, oShl, oApp, oPop, oPopAt, cLen, cInt, cAbs, cSum, cMax2, cMin2, cList, cIsi, tyD, asL, asF, asK, moL_lst, ModC, DivC,
  List.getElem?_cons_zero, List.getElem?_cons_succ, List.set_cons_zero, List.set_cons_succ, List.getElem?_nil, List.length_cons, List.length_nil, List.length_map, Option.map_some, Option.bind_some, Option.isSome_some, if_true, true_and, and_true, MM.push])
local macro_rules | `(tactic| walk_at "dx") => `(tactic| try simp only [eq_self_iff_true, okE_int, okE_bl, okE_non, eqD_int, eqD_bl, kq_NoneType_int, kq_NoneType_bool, kq_NoneType_list, kq_NoneType_tuple, kq_NoneType_str, kq_bool_int, kq_bool_bool, kq_bool_list, kq_bool_tuple, kq_bool_str, kq_int_int, kq_int_bool, kq_int_list, kq_int_tuple, kq_int_str, kq_str_int, kq_str_bool, kq_str_list, kq_str_tuple, kq_str_str, kq_list_int, kq_list_bool, kq_list_list, kq_list_tuple, kq_list_str, kq_tuple_int, kq_tuple_bool, kq_tuple_list, kq_tuple_tuple, kq_tuple_str, oInL, oIsB, oNotB, oEqH, oNeH, oShr, oExt, cMaxL, cMinL, cAny, cAll, cTuple, cListM, dRevL, dFld, dSetF, dAugF, dMeth, dMake, moI_ins, app_len, set_app, List.contains_cons, List.contains_nil, Bool.true_or,  Bool.true_eq_false, decide_true, not_true_eq_false, not_false_eq_true, Bool.not_true, Bool.not_false, decide_eq_true_eq, Bool.not_eq_true', decide_eq_false_iff_not, dSeq, dSet, dRaise_one, dRaise_two, dTryAs, dXf, dIsE, List.lookup_cons, List.lookup_nil, beq_self_eq_true, Bool.false_eq_true, if_false, dOp, dUn, dVar, dC, dCB, dCons, dNil, dRet, dRetN, dIf, dB, dAnd, dOr, dNot, dDrop, dNext, dMethL, dSetIx, dAndV, dOrV, dNotV, dBlV, dIfE, dLst, dTup, dLstM, dCall, dChain, dAsg, dgName, dgTup, bindD, asT, dFor, diList, diRng1, diRng2, diEnumerate, diZip, diReversed, dLc, dLcM, dYes, wipeD, dAug, dSl, dSlT, dpN, dpS,
  oI, oI0, oB0, oAdd, oNeg, oEq, oNe, oIx, oIsN, oNotN, isNon, oShl, oApp, oPop, oPopAt, cLen, cInt, cAbs, cSum, cMax2, cMin2, cList, cIsi, tyD, asL, asF, asK, moL_lst, ModC, DivC,
  List.getElem?_cons_zero, List.getElem?_cons_succ, List.set_cons_zero, List.set_cons_succ, List.getElem?_nil, List.length_cons, List.length_nil, List.length_map, Option.map_some, Option.bind_some, Option.isSome_some, if_true, true_and, and_true, MM.push])
local macro_rules | `(tactic| walk_at "lim") => `(tactic| repeat (first | (refine ⟨by decide, ?_⟩) | (refine ⟨by (try simp only [List.length_map, List.length_dropLast, List.length_append, List.length_cons, List.length_nil, List.length_replicate, List.length_take, List.length_drop, List.length_range]); (show _ ≤ 16777216); omega, ?_⟩)))

set_option hygiene false in
local macro_rules | `(tactic| walk_at "stp") => `(tactic| (refine dSeq_k fun k1 h1 => ?_; walk_at "dx"))
set_option hygiene false in
local macro_rules | `(tactic| walk_at "nxt") => `(tactic| (subst h1; (try dsimp only); refine dSeq_k fun k1 h1 => ?_; walk_at "dx"))
set_option hygiene false in
local macro_rules | `(tactic| walk_at "lst") => `(tactic| (subst h1; (try dsimp only); walk_at "dx"))
set_option hygiene false in
local macro_rules | `(tactic| walk_at "nxt2") => `(tactic| (subst h2; (try dsimp only); refine dSeq_k fun k2 h2 => ?_; walk_at "dx"))
set_option hygiene false in
local macro_rules | `(tactic| walk_at "stp2") => `(tactic| (refine dSeq_k fun k2 h2 => ?_; walk_at "dx"))
set_option hygiene false in
local macro_rules | `(tactic| walk_at "lst2") => `(tactic| (subst h2; (try dsimp only); walk_at "dx"))

/-! ### the polynomials are the sums -/
theorem lin2 (F G : WG → Int) (V : Int) : ∀ gs : List WG, (gs.map F).sum * V + (gs.map G).sum = (gs.map fun q => F q * V + G q).sum
  | [] => by show 0 * V + 0 = (0 : Int); omega
  | q :: gs => by
    have ih := lin2 F G V gs
    simp only [List.map_cons, List.sum_cons]
    rw [← ih]
    grind
end Dl

namespace Dl
open PySem L2
local macro_rules | `(tactic| walk_at "dl") => `(tactic| try simp only [dSeq, dSet, dRaise_one, dRaise_two, dTryAs, dXf, dIsE, List.lookup_cons, List.lookup_nil, beq_self_eq_true, Bool.false_eq_true, if_false, dOp, dUn, dVar, dC, dCB, dCons, dNil, dRet, dRetN, dIf, dB, dAnd, dOr, dNot, dDrop, dNext, dMethL, dSetIx, dAndV, dOrV, dNotV, dBlV, dIfE, dLst, dTup, dLstM, dCall, dChain, dAsg, dgName, dgTup, bindD, asT, dFor, diList, diRng1, diRng2, diEnumerate, diZip, diReversed, dLc, dLcM, dYes, wipeD, dAug, dSl, dSlT, dpN, dpS,
  oI, oI0, oB0, oAdd, oNeg, oEq, oNe, oIx, oIsN, oNotN, isNon, oShl, oApp, oPop, oPopAt, cLen, cInt, cAbs, cSum, cMax2, cMin2, cList, cIsi, tyD, asL, asF, asK, moL_lst, ModC, DivC,
  List.getElem?_cons_zero, List.getElem?_cons_succ, List.set_cons_zero, List.set_cons_succ, List.getElem?_nil, List.length_cons, List.length_nil, List.length_map, Option.map_some, Option.bind_some, Option.isSome_some, if_true, true_and, and_true, MM.push])
local macro_rules | `(tactic| walk_at "dx") => `(tactic| try simp only [eq_self_iff_true, okE_int, okE_bl, okE_non, eqD_int, eqD_bl, kq_NoneType_int, kq_NoneType_bool, kq_NoneType_list, kq_NoneType_tuple, kq_NoneType_str, kq_bool_int, kq_bool_bool, kq_bool_list, kq_bool_tuple, kq_bool_str, kq_int_int, kq_int_bool, kq_int_list, kq_int_tuple, kq_int_str, kq_str_int, kq_str_bool, kq_str_list, kq_str_tuple, kq_str_str, kq_list_int, kq_list_bool, kq_list_list, kq_list_tuple, kq_list_str, kq_tuple_int, kq_tuple_bool, kq_tuple_list, kq_tuple_tuple, kq_tuple_str, oInL, oIsB, oNotB, oEqH, oNeH, oShr, oExt, cMaxL, cMinL, cAny, cAll, cTuple, cListM, dRevL, dFld, dSetF, dAugF, dMeth, dMake, moI_ins, app_len, set_app, List.contains_cons, List.contains_nil, Bool.true_or,  Bool.true_eq_false, decide_true, not_true_eq_false, not_false_eq_true, Bool.not_true, Bool.not_false, decide_eq_true_eq, Bool.not_eq_true', decide_eq_false_iff_not, dSeq, dSet, dRaise_one, dRaise_two, dTryAs, dXf, dIsE, List.lookup_cons, List.lookup_nil, beq_self_eq_true, Bool.false_eq_true, if_false, dOp, dUn, dVar, dC, dCB, dCons, dNil, dRet, dRetN, dIf, dB, dAnd, dOr, dNot, dDrop, dNext, dMethL, dSetIx, dAndV, dOrV, dNotV, dBlV, dIfE, dLst, dTup, dLstM, dCall, dChain, dAsg, dgName, dgTup, bindD, asT, dFor, diList, diRng1, diRng2, diEnumerate, diZip, diReversed, dLc, dLcM, dYes, wipeD, dAug, dSl, dSlT, dpN, dpS,
  oI, oI0, oB0, oAdd, oNeg, oEq, oNe, oIx, oIsN, oNotN, isNon, oShl, oApp, oPop, oPopAt, cLen, cInt, cAbs, cSum, cMax2, cMin2, cList, cIsi, tyD, asL, asF, asK, moL_lst, ModC, DivC,
  List.getElem?_cons_zero, List.getElem?_cons_succ, List.set_cons_zero, List.set_cons_succ, List.getElem?_nil, List.length_cons, List.length_nil, List.length_map, Option.map_some, Option.bind_some, Option.isSome_some, if_true, true_and, and_true, MM.push])
local macro_rules | `(tactic| walk_at "lim") => `(tactic| repeat (first | (refine ⟨by decide, ?_⟩) | (refine ⟨by (try simp only [List.length_map, List.length_dropLast, List.length_append, List.length_cons, List.length_nil, List.length_replicate, List.length_take, List.length_drop, List.length_range]); (show _ ≤ 16777216); omega, ?_⟩)))

set_option hygiene false in
local macro_rules | `(tactic| walk_at "stp") => `(tactic| (refine dSeq_k fun k1 h1 => ?_; walk_at "dx"))
set_option hygiene false in
local macro_rules | `(tactic| walk_at "nxt") => `(tactic| (subst h1; (try dsimp only); refine dSeq_k fun k1 h1 => ?_; walk_at "dx"))
set_option hygiene false in
local macro_rules | `(tactic| walk_at "lst") => `(tactic| (subst h1; (try dsimp only); walk_at "dx"))
set_option hygiene false in
local macro_rules | `(tactic| walk_at "nxt2") => `(tactic| (subst h2; (try dsimp only); refine dSeq_k fun k2 h2 => ?_; walk_at "dx"))
set_option hygiene false in
local macro_rules | `(tactic| walk_at "stp2") => `(tactic| (refine dSeq_k fun k2 h2 => ?_; walk_at "dx"))
set_option hygiene false in
local macro_rules | `(tactic| walk_at "lst2") => `(tactic| (subst h2; (try dsimp only); walk_at "dx"))

/-! ### the laws' own nearness, values, weights -/
def nearL (p : Int) (a b : List Int) : Nat → Int
  | 0 => 1
  | k + 1 => nearL p a b k * (gi a (k : Nat) * gi b (k : Nat) + (1 - gi a (k : Nat)) * (1 - gi b (k : Nat))) % p
def C__law_near__2 : DC := fun ds m Φ _ => ∃ (a b : List Int) (p : Int), ds = [.lst (a.map D.int), .lst (b.map D.int), .int p] ∧ PM p ∧ InP p a ∧ InP p b ∧ a.length = b.length ∧ a.length ≤ 1000 ∧ Φ (.int (nearL p a b a.length)) m
def W__law_near__2 : DS := dSeq (dSet 3 (dC (.int 1))) (dSeq (dFor (diRng1 (dCons (dCB cLen (dCons (dVar 0) (dNil))) (dNil))) (dgName 4) (dSet 3 (dOp oMod (dCB cInt (dCons (dOp oMul (dVar 3) (dOp oAdd (dOp oMul (dOp oIx (dVar 0) (dVar 4)) (dOp oIx (dVar 1) (dVar 4))) (dOp oMul (dOp oSub (dC (.int 1)) (dOp oIx (dVar 0) (dVar 4))) (dOp oSub (dC (.int 1)) (dOp oIx (dVar 1) (dVar 4)))))) (dNil))) (dVar 2)))) (dRet (dVar 3)))
theorem nearL_in {p : Int} (hp : 2 ≤ p) {a b : List Int} : ∀ k : Nat, 0 ≤ nearL p a b k ∧ nearL p a b k < p
  | 0 => ⟨by show (0 : Int) ≤ 1; omega, by show (1 : Int) < p; omega⟩
  | k + 1 => mod_in hp
theorem rd__law_near__2 : ∀ ds m Φ Ψ, ds.length = 3 → C__law_near__2 ds m Φ Ψ → W__law_near__2 { nx := fun _ m' => Φ .non m', rt := Φ } (fun _ => Ψ) (ds.map some ++ List.replicate (5 - ds.length) none) m := by
  intro ds m Φ Ψ _ h
  obtain ⟨a, b, p, rfl, hp, ha, hb, hl, h1000, q⟩ := h
  have hp1 := hp.1
  have hp2 := hp.2
  change W__law_near__2 _ _ [some (.lst (a.map D.int)), some (.lst (b.map D.int)), some (.int p), none, none] m
  unfold W__law_near__2
  walk_at "stp"
  walk_at "nxt"
  refine ⟨⟨by omega, by omega⟩, ?_⟩
  rw [rngD0, Int.toNat_natCast]
  refine forW_nat (fun k ρ m' => ∃ v4 : Option D, ρ = [some (.lst (a.map D.int)), some (.lst (b.map D.int)), some (.int p), some (.int (nearL p a b k)), v4] ∧ m' = m) ?_ ?_ ⟨none, rfl, rfl⟩
  · rintro k kk hk hkk ρ m' ⟨v4, rfl, rfl⟩
    have na := nearL_in (a := a) (b := b) hp1 k
    have ga := ha.gN hk
    have gb := hb.gN (i := k) (by omega)
    walk_at "dx"
    refine ⟨_, atI_gi (by omega) (by omega), _, atI_gi (by omega) (by omega), mulR gb.1 (by omega), ?_⟩
    walk_at "dx"
    refine ⟨_, atI_gi (by omega) (by omega), ?_⟩
    walk_at "dx"
    refine ⟨_, atI_gi (by omega) (by omega), ?_⟩
    walk_at "dx"
    exact ⟨.inl ⟨by omega, by omega⟩, mulL na.1 (by omega), by omega, hkk _ _ ⟨_, rfl, rfl⟩⟩
  · rintro ρ m' ⟨v4, rfl, rfl⟩
    walk_at "lst"
    exact q
def C__law_corner : DC := fun ds m Φ _ => ∃ k n : Nat, ds = [.int (k : Nat), .int (n : Nat)] ∧ n ≤ 1000 ∧ Φ (.lst ((corn k n).map D.int)) m
def W__law_corner : DS := dRet (dLc (diRng1 (dCons (dVar 1) (dNil))) (dgName 2) (dYes) (dOp oMod (dCB cInt (dCons (dOp oShr (dVar 0) (dVar 2)) (dNil))) (dC (.int 2))) [2])
theorem shr_nat {k j : Nat} : ((k : Nat) : Int) / 2 ^ ((j : Nat) : Int).toNat = ((k / 2 ^ j : Nat) : Int) := by
  rw [Int.toNat_natCast, Int.natCast_ediv, Int.natCast_pow]; rfl
theorem rd__law_corner : ∀ ds m Φ Ψ, ds.length = 2 → C__law_corner ds m Φ Ψ → W__law_corner { nx := fun _ m' => Φ .non m', rt := Φ } (fun _ => Ψ) (ds.map some ++ List.replicate (3 - ds.length) none) m := by
  intro ds m Φ Ψ _ h
  obtain ⟨k, n, rfl, hn, q⟩ := h
  change W__law_corner _ _ [some (.int (k : Nat)), some (.int (n : Nat)), none] m
  unfold W__law_corner
  walk_at "dx"
  refine ⟨⟨by omega, by omega⟩, ?_⟩
  rw [rngD0, Int.toNat_natCast]
  refine lcW_fn (inj := fun i : Nat => D.int (i : Nat)) (out := D.int) (fun j : Nat => ((k / 2 ^ j % 2 : Nat) : Int)) m (List.range n) ?_ (fun _ => rfl) (by rw [List.length_range]; show _ ≤ 16777216; omega) q
  intro j hj m2 Θ hΘ
  walk_at "dx"
  refine ⟨by omega, by decide, ?_⟩
  rw [shr_nat, show ((k / 2 ^ j : Nat) : Int) % 2 = ((k / 2 ^ j % 2 : Nat) : Int) by omega]
  exact hΘ
theorem corn_in {p : Int} (hp : 2 ≤ p) {k n : Nat} : InP p (corn k n) := fun x hx => by
  obtain ⟨j, _, rfl⟩ := List.mem_map.mp hx
  omega
def nPf (a b : List Int) : Nat → Int
  | 0 => 1
  | k + 1 => nPf a b k * (gi a (k : Nat) * gi b (k : Nat) + (1 - gi a (k : Nat)) * (1 - gi b (k : Nat)))
theorem nPf_cons {x y : Int} {a b : List Int} : ∀ k : Nat, nPf (x :: a) (y :: b) (k + 1) = (x * y + (1 - x) * (1 - y)) * nPf a b k
  | 0 => by
    show 1 * (x * y + (1 - x) * (1 - y)) = _ * 1
    omega
  | k + 1 => by
    show nPf (x :: a) (y :: b) (k + 1) * (gi (x :: a) ((k + 1 : Nat) : Int) * gi (y :: b) ((k + 1 : Nat) : Int) + (1 - gi (x :: a) ((k + 1 : Nat) : Int)) * (1 - gi (y :: b) ((k + 1 : Nat) : Int))) = _
    rw [nPf_cons k]
    have e1 : gi (x :: a) ((k + 1 : Nat) : Int) = gi a (k : Nat) := by rw [gi_nat, gi_nat]; rfl
    have e2 : gi (y :: b) ((k + 1 : Nat) : Int) = gi b (k : Nat) := by rw [gi_nat, gi_nat]; rfl
    rw [e1, e2, Int.mul_assoc]; rfl
theorem nPf_pl : ∀ (a b : List Int), a.length = b.length → nPf a b a.length = nPl a b
  | [], [], _ => rfl
  | x :: a, y :: b, h => by
    rw [List.length_cons, nPf_cons, nPf_pl a b (by simpa using h)]; rfl
theorem nearL_f {p : Int} {a b : List Int} : ∀ k : Nat, Cg p (nearL p a b k) (nPf a b k)
  | 0 => .refl
  | k + 1 => Cg.mod.trans ((nearL_f k).mul .refl)
theorem nearL_cg {p : Int} {a b : List Int} (h : a.length = b.length) : Cg p (nearL p a b a.length) (nPl a b) := by
  rw [← nPf_pl a b h]
  exact nearL_f _
theorem nPl_corn {k n : Nat} {pt : List Int} (hk : k < 2 ^ n) (hn : pt.length = n) : nPl (corn k n) pt = wt pt k := by
  rw [← nPl_wt _ _ (by rw [corn_len, hn]), corn_len]
  exact S_corn (f := fun z => wt pt z) hk
theorem near_corn {p : Int} {k : Nat} {pt : List Int} (hk : k < 2 ^ pt.length) : Cg p (nearL p (corn k pt.length) pt (corn k pt.length).length) (wt pt k) := by
  rw [← nPl_corn (n := pt.length) hk rfl]
  exact nearL_cg corn_len
def C__law_value__2 : DC := fun ds m Φ _ => ∃ (t pt : List Int) (p : Int), ds = [.lst (t.map D.int), .lst (pt.map D.int), .int p] ∧ PM p ∧ InP p t ∧ InP p pt ∧ t.length = 2 ^ pt.length ∧ pt.length ≤ 16 ∧ Φ (.int (mle t pt % p)) m
def W__law_value__2 : DS := dSeq (dSet 3 (dC (.int 0))) (dSeq (dFor (diRng1 (dCons (dCB cLen (dCons (dVar 0) (dNil))) (dNil))) (dgName 4) (dSet 3 (dOp oAdd (dVar 3) (dOp oMul (dOp oIx (dVar 0) (dVar 4)) (dCall 3 C__law_near__2 (dCons (dCall 2 C__law_corner (dCons (dVar 4) (dCons (dCB cLen (dCons (dVar 1) (dNil))) (dNil)))) (dCons (dVar 1) (dCons (dVar 2) (dNil))))))))) (dRet (dOp oMod (dCB cInt (dCons (dVar 3) (dNil))) (dVar 2))))
theorem rd__law_value__2 : ∀ ds m Φ Ψ, ds.length = 3 → C__law_value__2 ds m Φ Ψ → W__law_value__2 { nx := fun _ m' => Φ .non m', rt := Φ } (fun _ => Ψ) (ds.map some ++ List.replicate (5 - ds.length) none) m := by
  intro ds m Φ Ψ _ h
  obtain ⟨t, pt, p, rfl, hp, ht, hpt, hl, h16, q⟩ := h
  have hp1 := hp.1
  have hp2 := hp.2
  have p16 : (2 : Nat) ^ pt.length ≤ 2 ^ 16 := Nat.pow_le_pow_right (by decide) h16
  change W__law_value__2 _ _ [some (.lst (t.map D.int)), some (.lst (pt.map D.int)), some (.int p), none, none] m
  unfold W__law_value__2
  walk_at "stp"
  walk_at "nxt"
  refine ⟨⟨by omega, by omega⟩, ?_⟩
  rw [rngD0, Int.toNat_natCast]
  refine forW_nat (fun k ρ m' => ∃ (z : Int) (v4 : Option D), Cg p z (S k fun z => wt pt z * gi t (z : Nat)) ∧ ρ = [some (.lst (t.map D.int)), some (.lst (pt.map D.int)), some (.int p), some (.int z), v4] ∧ m' = m) ?_ ?_ ⟨0, none, .refl, rfl, rfl⟩
  · rintro k kk hk hkk ρ m' ⟨z, v4, hz, rfl, rfl⟩
    have gt := ht.gN hk
    walk_at "dx"
    refine ⟨_, atI_gi (by omega) (by omega), k, pt.length, rfl, by omega, ?_⟩
    refine ⟨corn k pt.length, pt, p, rfl, hp, corn_in hp1, hpt, corn_len, by rw [corn_len]; omega, ?_⟩
    walk_at "dx"
    refine ⟨mulL gt.1 (by omega), hkk _ _ ⟨_, _, ?_, rfl, rfl⟩⟩
    show Cg p _ (S k _ + wt pt k * gi t (k : Nat))
    rw [Int.mul_comm (wt pt k)]
    exact Cg.add hz (Cg.mul .refl (near_corn (by omega)))
  · rintro ρ m' ⟨z, v4, hz, rfl, rfl⟩
    walk_at "lst"
    rw [hl] at hz
    have e : z % p = mle t pt % p := hz
    rw [e]
    exact ⟨by omega, q⟩
def gA (X Y : List Int) : Gate → Int
  | .lin a x _ y => a * (wt X x.toNat * wt Y y.toNat)
  | .mul _ _ _ => 0
end Dl

namespace Dl
open PySem L2
local macro_rules | `(tactic| walk_at "dl") => `(tactic| try simp only [dSeq, dSet, dRaise_one, dRaise_two, dTryAs, dXf, dIsE, List.lookup_cons, List.lookup_nil, beq_self_eq_true, Bool.false_eq_true, if_false, dOp, dUn, dVar, dC, dCB, dCons, dNil, dRet, dRetN, dIf, dB, dAnd, dOr, dNot, dDrop, dNext, dMethL, dSetIx, dAndV, dOrV, dNotV, dBlV, dIfE, dLst, dTup, dLstM, dCall, dChain, dAsg, dgName, dgTup, bindD, asT, dFor, diList, diRng1, diRng2, diEnumerate, diZip, diReversed, dLc, dLcM, dYes, wipeD, dAug, dSl, dSlT, dpN, dpS,
  oI, oI0, oB0, oAdd, oNeg, oEq, oNe, oIx, oIsN, oNotN, isNon, oShl, oApp, oPop, oPopAt, cLen, cInt, cAbs, cSum, cMax2, cMin2, cList, cIsi, tyD, asL, asF, asK, moL_lst, ModC, DivC,
  List.getElem?_cons_zero, List.getElem?_cons_succ, List.set_cons_zero, List.set_cons_succ, List.getElem?_nil, List.length_cons, List.length_nil, List.length_map, Option.map_some, Option.bind_some, Option.isSome_some, if_true, true_and, and_true, MM.push])
local macro_rules | `(tactic| walk_at "dx") => `(tactic| try simp only [eq_self_iff_true, okE_int, okE_bl, okE_non, eqD_int, eqD_bl, kq_NoneType_int, kq_NoneType_bool, kq_NoneType_list, kq_NoneType_tuple, kq_NoneType_str, kq_bool_int, kq_bool_bool, kq_bool_list, kq_bool_tuple, kq_bool_str, kq_int_int, kq_int_bool, kq_int_list, kq_int_tuple, kq_int_str, kq_str_int, kq_str_bool, kq_str_list, kq_str_tuple, kq_str_str, kq_list_int, kq_list_bool, kq_list_list, kq_list_tuple, kq_list_str, kq_tuple_int, kq_tuple_bool, kq_tuple_list, kq_tuple_tuple, kq_tuple_str, oInL, oIsB, oNotB, oEqH, oNeH, oShr, oExt, cMaxL, cMinL, cAny, cAll, cTuple, cListM, dRevL, dFld, dSetF, dAugF, dMeth, dMake, moI_ins, app_len, set_app, List.contains_cons, List.contains_nil, Bool.true_or,  Bool.true_eq_false, decide_true, not_true_eq_false, not_false_eq_true, Bool.not_true, Bool.not_false, decide_eq_true_eq, Bool.not_eq_true', decide_eq_false_iff_not, dSeq, dSet, dRaise_one, dRaise_two, dTryAs, dXf, dIsE, List.lookup_cons, List.lookup_nil, beq_self_eq_true, Bool.false_eq_true, if_false, dOp, dUn, dVar, dC, dCB, dCons, dNil, dRet, dRetN, dIf, dB, dAnd, dOr, dNot, dDrop, dNext, dMethL, dSetIx, dAndV, dOrV, dNotV, dBlV, dIfE, dLst, dTup, dLstM, dCall, dChain, dAsg, dgName, dgTup, bindD, asT, dFor, diList, diRng1, diRng2, diEnumerate, diZip, diReversed, dLc, dLcM, dYes, wipeD, dAug, dSl, dSlT, dpN, dpS,
  oI, oI0, oB0, oAdd, oNeg, oEq, oNe, oIx, oIsN, oNotN, isNon, oShl, oApp, oPop, oPopAt, cLen, cInt, cAbs, cSum, cMax2, cMin2, cList, cIsi, tyD, asL, asF, asK, moL_lst, ModC, DivC,
  List.getElem?_cons_zero, List.getElem?_cons_succ, List.set_cons_zero, List.set_cons_succ, List.getElem?_nil, List.length_cons, List.length_nil, List.length_map, Option.map_some, Option.bind_some, Option.isSome_some, if_true, true_and, and_true, MM.push])
local macro_rules | `(tactic| walk_at "lim") => `(tactic| repeat (first | (refine ⟨by decide, ?_⟩) | (refine ⟨by (try simp only [List.length_map, List.length_dropLast, List.length_append, List.length_cons, List.length_nil, List.length_replicate, List.length_take, List.length_drop, List.length_range]); (show _ ≤ 16777216); omega, ?_⟩)))

set_option hygiene false in
local macro_rules | `(tactic| walk_at "stp") => `(tactic| (refine dSeq_k fun k1 h1 => ?_; walk_at "dx"))
set_option hygiene false in
local macro_rules | `(tactic| walk_at "nxt") => `(tactic| (subst h1; (try dsimp only); refine dSeq_k fun k1 h1 => ?_; walk_at "dx"))
set_option hygiene false in
local macro_rules | `(tactic| walk_at "lst") => `(tactic| (subst h1; (try dsimp only); walk_at "dx"))
set_option hygiene false in
local macro_rules | `(tactic| walk_at "nxt2") => `(tactic| (subst h2; (try dsimp only); refine dSeq_k fun k2 h2 => ?_; walk_at "dx"))
set_option hygiene false in
local macro_rules | `(tactic| walk_at "stp2") => `(tactic| (refine dSeq_k fun k2 h2 => ?_; walk_at "dx"))
set_option hygiene false in
local macro_rules | `(tactic| walk_at "lst2") => `(tactic| (subst h2; (try dsimp only); walk_at "dx"))

/-! ### a list taken apart -/
section
variable {X : Cx}
end
/-! ### the laws' sums -/
structure LayOK (c : Cir) (most wide b l : Nat) (B g : List Int) : Prop where
  ok : CirOK c most wide
  w3 : wide ≤ 3
  b3 : b ≤ 3
  hl : l < c.ls.length
  hB : InP c.p B
  bl : B.length = 2 ^ b * 2 ^ wN c (l + 1)
  hg : InP c.p g
  gl : g.length = b + wN c l
theorem LayOK.w {c : Cir} {most wide b l : Nat} {B g : List Int} (h : LayOK c most wide b l B g) : wN c (l + 1) ≤ 3 ∧ wN c l ≤ 3 := by
  have hwl := h.ok.wl
  have hl := h.hl
  have w3 := h.w3
  have e1 := wN_eq h.ok (i := l) (by omega)
  have e2 := wN_eq h.ok (i := l + 1) (by omega)
  have z1 := h.ok.w0 _ (gi_mem (show l < c.ws.length by omega))
  have z2 := h.ok.w0 _ (gi_mem (show l + 1 < c.ws.length by omega))
  omega
end Dl

namespace Dl
open PySem L2
local macro_rules | `(tactic| walk_at "dl") => `(tactic| try simp only [dSeq, dSet, dRaise_one, dRaise_two, dTryAs, dXf, dIsE, List.lookup_cons, List.lookup_nil, beq_self_eq_true, Bool.false_eq_true, if_false, dOp, dUn, dVar, dC, dCB, dCons, dNil, dRet, dRetN, dIf, dB, dAnd, dOr, dNot, dDrop, dNext, dMethL, dSetIx, dAndV, dOrV, dNotV, dBlV, dIfE, dLst, dTup, dLstM, dCall, dChain, dAsg, dgName, dgTup, bindD, asT, dFor, diList, diRng1, diRng2, diEnumerate, diZip, diReversed, dLc, dLcM, dYes, wipeD, dAug, dSl, dSlT, dpN, dpS,
  oI, oI0, oB0, oAdd, oNeg, oEq, oNe, oIx, oIsN, oNotN, isNon, oShl, oApp, oPop, oPopAt, cLen, cInt, cAbs, cSum, cMax2, cMin2, cList, cIsi, tyD, asL, asF, asK, moL_lst, ModC, DivC,
  List.getElem?_cons_zero, List.getElem?_cons_succ, List.set_cons_zero, List.set_cons_succ, List.getElem?_nil, List.length_cons, List.length_nil, List.length_map, Option.map_some, Option.bind_some, Option.isSome_some, if_true, true_and, and_true, MM.push])
local macro_rules | `(tactic| walk_at "dx") => `(tactic| try simp only [eq_self_iff_true, okE_int, okE_bl, okE_non, eqD_int, eqD_bl, kq_NoneType_int, kq_NoneType_bool, kq_NoneType_list, kq_NoneType_tuple, kq_NoneType_str, kq_bool_int, kq_bool_bool, kq_bool_list, kq_bool_tuple, kq_bool_str, kq_int_int, kq_int_bool, kq_int_list, kq_int_tuple, kq_int_str, kq_str_int, kq_str_bool, kq_str_list, kq_str_tuple, kq_str_str, kq_list_int, kq_list_bool, kq_list_list, kq_list_tuple, kq_list_str, kq_tuple_int, kq_tuple_bool, kq_tuple_list, kq_tuple_tuple, kq_tuple_str, oInL, oIsB, oNotB, oEqH, oNeH, oShr, oExt, cMaxL, cMinL, cAny, cAll, cTuple, cListM, dRevL, dFld, dSetF, dAugF, dMeth, dMake, moI_ins, app_len, set_app, List.contains_cons, List.contains_nil, Bool.true_or,  Bool.true_eq_false, decide_true, not_true_eq_false, not_false_eq_true, Bool.not_true, Bool.not_false, decide_eq_true_eq, Bool.not_eq_true', decide_eq_false_iff_not, dSeq, dSet, dRaise_one, dRaise_two, dTryAs, dXf, dIsE, List.lookup_cons, List.lookup_nil, beq_self_eq_true, Bool.false_eq_true, if_false, dOp, dUn, dVar, dC, dCB, dCons, dNil, dRet, dRetN, dIf, dB, dAnd, dOr, dNot, dDrop, dNext, dMethL, dSetIx, dAndV, dOrV, dNotV, dBlV, dIfE, dLst, dTup, dLstM, dCall, dChain, dAsg, dgName, dgTup, bindD, asT, dFor, diList, diRng1, diRng2, diEnumerate, diZip, diReversed, dLc, dLcM, dYes, wipeD, dAug, dSl, dSlT, dpN, dpS,
  oI, oI0, oB0, oAdd, oNeg, oEq, oNe, oIx, oIsN, oNotN, isNon, oShl, oApp, oPop, oPopAt, cLen, cInt, cAbs, cSum, cMax2, cMin2, cList, cIsi, tyD, asL, asF, asK, moL_lst, ModC, DivC,
  List.getElem?_cons_zero, List.getElem?_cons_succ, List.set_cons_zero, List.set_cons_succ, List.getElem?_nil, List.length_cons, List.length_nil, List.length_map, Option.map_some, Option.bind_some, Option.isSome_some, if_true, true_and, and_true, MM.push])
local macro_rules | `(tactic| walk_at "lim") => `(tactic| repeat (first | (refine ⟨by decide, ?_⟩) | (refine ⟨by (try simp only [List.length_map, List.length_dropLast, List.length_append, List.length_cons, List.length_nil, List.length_replicate, List.length_take, List.length_drop, List.length_range]); (show _ ≤ 16777216); omega, ?_⟩)))

set_option hygiene false in
local macro_rules | `(tactic| walk_at "stp") => `(tactic| (refine dSeq_k fun k1 h1 => ?_; walk_at "dx"))
set_option hygiene false in
local macro_rules | `(tactic| walk_at "nxt") => `(tactic| (subst h1; (try dsimp only); refine dSeq_k fun k1 h1 => ?_; walk_at "dx"))
set_option hygiene false in
local macro_rules | `(tactic| walk_at "lst") => `(tactic| (subst h1; (try dsimp only); walk_at "dx"))
set_option hygiene false in
local macro_rules | `(tactic| walk_at "nxt2") => `(tactic| (subst h2; (try dsimp only); refine dSeq_k fun k2 h2 => ?_; walk_at "dx"))
set_option hygiene false in
local macro_rules | `(tactic| walk_at "stp2") => `(tactic| (refine dSeq_k fun k2 h2 => ?_; walk_at "dx"))
set_option hygiene false in
local macro_rules | `(tactic| walk_at "lst2") => `(tactic| (subst h2; (try dsimp only); walk_at "dx"))
set_option hygiene false in
local macro_rules | `(tactic| walk_at "an") => `(tactic| (walk_at "dx"; (try simp only [dgTupG, dgsCons, dgsNil, dgFld, asT, dVar, List.length_cons, List.length_nil, List.getElem?_cons_zero, ob, obL, hk, moI_ins, Fl_Answerer.circuit, Fl_Answerer.tables, Fl_Answerer.bits, Fl_Answerer.p, Fl_Answerer.steps, Fl_Answerer.layer, Fl_Answerer.round, Fl_Answerer.wide, Fl_Answerer.gates, Fl_Answerer.near, Fl_Answerer.columns, Fl_Answerer.first, Fl_Answerer.second, Fl_Answerer.share, Fl_Answerer.below, Fl_Answerer.factors, Fl_Answerer.rest, Fl_Answerer.left,
  List.getElem?_set_self, List.set_set, List.length_set, look_put, String.reduceEq, reduceIte, exists_eq_left', Option.some.injEq, true_and, and_true])))

def C_Answerer_outputs : DC := fun ds m Φ _ => ∃ (k : Nat) (fs : List (String × D)) (s : AS), ds = [.hnd k] ∧ m.M[k]? = some (.ins "Answerer" fs) ∧ A0 fs s ∧ 0 < s.T.length ∧ Φ (intL (s.T.getD 0 [])) m
def W_Answerer_outputs (fl : String → List String) : DS := dRet (dCB cList (dCons (dOp oIx (dFld (fl "tables") "tables" (dVar 0)) (dC (.int 0))) (dNil)))
theorem rd_Answerer_outputs {fl : String → List String} (F : Fl_Answerer fl) : ∀ ds m Φ Ψ, ds.length = 1 → C_Answerer_outputs ds m Φ Ψ → W_Answerer_outputs fl { nx := fun _ m' => Φ .non m', rt := Φ } (fun _ => Ψ) (ds.map some ++ List.replicate (1 - ds.length) none) m := by
  intro ds m Φ Ψ _ h
  obtain ⟨k, fs, s, rfl, ob, a0, hT, q⟩ := h
  have hk := getLt ob
  have obL := obApp ob
  change W_Answerer_outputs fl _ _ [some (.hnd k)] m
  unfold W_Answerer_outputs
  walk_at "an"
  refine ⟨_, a0.tables, ?_⟩
  rw [show tabL s.T = .lst (s.T.map intL) from rfl]
  walk_at "dx"
  refine ⟨intL (s.T.getD 0 []), atI_nat (j := 0) (by rw [List.getElem?_map, List.getD_eq_getElem?_getD, List.getElem?_eq_getElem hT]; rfl), ?_⟩
  unfold intL at *
  walk_at "dx"
  exact q
end Dl

namespace Dl
open PySem L2
local macro_rules | `(tactic| walk_at "dl") => `(tactic| try simp only [dSeq, dSet, dRaise_one, dRaise_two, dTryAs, dXf, dIsE, List.lookup_cons, List.lookup_nil, beq_self_eq_true, Bool.false_eq_true, if_false, dOp, dUn, dVar, dC, dCB, dCons, dNil, dRet, dRetN, dIf, dB, dAnd, dOr, dNot, dDrop, dNext, dMethL, dSetIx, dAndV, dOrV, dNotV, dBlV, dIfE, dLst, dTup, dLstM, dCall, dChain, dAsg, dgName, dgTup, bindD, asT, dFor, diList, diRng1, diRng2, diEnumerate, diZip, diReversed, dLc, dLcM, dYes, wipeD, dAug, dSl, dSlT, dpN, dpS,
  oI, oI0, oB0, oAdd, oNeg, oEq, oNe, oIx, oIsN, oNotN, isNon, oShl, oApp, oPop, oPopAt, cLen, cInt, cAbs, cSum, cMax2, cMin2, cList, cIsi, tyD, asL, asF, asK, moL_lst, ModC, DivC,
  List.getElem?_cons_zero, List.getElem?_cons_succ, List.set_cons_zero, List.set_cons_succ, List.getElem?_nil, List.length_cons, List.length_nil, List.length_map, Option.map_some, Option.bind_some, Option.isSome_some, if_true, true_and, and_true, MM.push])
local macro_rules | `(tactic| walk_at "dx") => `(tactic| try simp only [eq_self_iff_true, okE_int, okE_bl, okE_non, eqD_int, eqD_bl, kq_NoneType_int, kq_NoneType_bool, kq_NoneType_list, kq_NoneType_tuple, kq_NoneType_str, kq_bool_int, kq_bool_bool, kq_bool_list, kq_bool_tuple, kq_bool_str, kq_int_int, kq_int_bool, kq_int_list, kq_int_tuple, kq_int_str, kq_str_int, kq_str_bool, kq_str_list, kq_str_tuple, kq_str_str, kq_list_int, kq_list_bool, kq_list_list, kq_list_tuple, kq_list_str, kq_tuple_int, kq_tuple_bool, kq_tuple_list, kq_tuple_tuple, kq_tuple_str, oInL, oIsB, oNotB, oEqH, oNeH, oShr, oExt, cMaxL, cMinL, cAny, cAll, cTuple, cListM, dRevL, dFld, dSetF, dAugF, dMeth, dMake, moI_ins, app_len, set_app, List.contains_cons, List.contains_nil, Bool.true_or,  Bool.true_eq_false, decide_true, not_true_eq_false, not_false_eq_true, Bool.not_true, Bool.not_false, decide_eq_true_eq, Bool.not_eq_true', decide_eq_false_iff_not, dSeq, dSet, dRaise_one, dRaise_two, dTryAs, dXf, dIsE, List.lookup_cons, List.lookup_nil, beq_self_eq_true, Bool.false_eq_true, if_false, dOp, dUn, dVar, dC, dCB, dCons, dNil, dRet, dRetN, dIf, dB, dAnd, dOr, dNot, dDrop, dNext, dMethL, dSetIx, dAndV, dOrV, dNotV, dBlV, dIfE, dLst, dTup, dLstM, dCall, dChain, dAsg, dgName, dgTup, bindD, asT, dFor, diList, diRng1, diRng2, diEnumerate, diZip, diReversed, dLc, dLcM, dYes, wipeD, dAug, dSl, dSlT, dpN, dpS,
  oI, oI0, oB0, oAdd, oNeg, oEq, oNe, oIx, oIsN, oNotN, isNon, oShl, oApp, oPop, oPopAt, cLen, cInt, cAbs, cSum, cMax2, cMin2, cList, cIsi, tyD, asL, asF, asK, moL_lst, ModC, DivC,
  List.getElem?_cons_zero, List.getElem?_cons_succ, List.set_cons_zero, List.set_cons_succ, List.getElem?_nil, List.length_cons, List.length_nil, List.length_map, Option.map_some, Option.bind_some, Option.isSome_some, if_true, true_and, and_true, MM.push])
local macro_rules | `(tactic| walk_at "lim") => `(tactic| repeat (first | (refine ⟨by decide, ?_⟩) | (refine ⟨by (try simp only [List.length_map, List.length_dropLast, List.length_append, List.length_cons, List.length_nil, List.length_replicate, List.length_take, List.length_drop, List.length_range]); (show _ ≤ 16777216); omega, ?_⟩)))

set_option hygiene false in
local macro_rules | `(tactic| walk_at "stp") => `(tactic| (refine dSeq_k fun k1 h1 => ?_; walk_at "dx"))
set_option hygiene false in
local macro_rules | `(tactic| walk_at "nxt") => `(tactic| (subst h1; (try dsimp only); refine dSeq_k fun k1 h1 => ?_; walk_at "dx"))
set_option hygiene false in
local macro_rules | `(tactic| walk_at "lst") => `(tactic| (subst h1; (try dsimp only); walk_at "dx"))
set_option hygiene false in
local macro_rules | `(tactic| walk_at "nxt2") => `(tactic| (subst h2; (try dsimp only); refine dSeq_k fun k2 h2 => ?_; walk_at "dx"))
set_option hygiene false in
local macro_rules | `(tactic| walk_at "stp2") => `(tactic| (refine dSeq_k fun k2 h2 => ?_; walk_at "dx"))
set_option hygiene false in
local macro_rules | `(tactic| walk_at "lst2") => `(tactic| (subst h2; (try dsimp only); walk_at "dx"))

/-! ### the sums are polynomials -/
def Aff (f : Int → Int) : Prop := ∃ a b : Int, ∀ t, f t = a + b * t
theorem Aff.const (c : Int) : Aff fun _ => c := ⟨c, 0, fun t => by show c = c + 0 * t; omega⟩
theorem Aff.add {f g : Int → Int} : Aff f → Aff g → Aff fun t => f t + g t := fun ⟨a, b, h⟩ ⟨c, d, k⟩ => ⟨a + c, b + d, fun t => by show f t + g t = _; rw [h, k]; grind⟩
theorem Aff.smul {f : Int → Int} (c : Int) : Aff f → Aff fun t => c * f t := fun ⟨a, b, h⟩ => ⟨c * a, c * b, fun t => by show c * f t = _; rw [h]; grind⟩
theorem Aff.S {F : Nat → Int → Int} : ∀ n : Nat, (∀ i < n, Aff (F i)) → Aff fun t => Dl.S n fun i => F i t
  | 0, _ => .const 0
  | n + 1, h => (Aff.S n fun i hi => h i (by omega)).add (h n (by omega))
end Dl

namespace Dl
open PySem L2
local macro_rules | `(tactic| walk_at "dl") => `(tactic| try simp only [dSeq, dSet, dRaise_one, dRaise_two, dTryAs, dXf, dIsE, List.lookup_cons, List.lookup_nil, beq_self_eq_true, Bool.false_eq_true, if_false, dOp, dUn, dVar, dC, dCB, dCons, dNil, dRet, dRetN, dIf, dB, dAnd, dOr, dNot, dDrop, dNext, dMethL, dSetIx, dAndV, dOrV, dNotV, dBlV, dIfE, dLst, dTup, dLstM, dCall, dChain, dAsg, dgName, dgTup, bindD, asT, dFor, diList, diRng1, diRng2, diEnumerate, diZip, diReversed, dLc, dLcM, dYes, wipeD, dAug, dSl, dSlT, dpN, dpS,
  oI, oI0, oB0, oAdd, oNeg, oEq, oNe, oIx, oIsN, oNotN, isNon, oShl, oApp, oPop, oPopAt, cLen, cInt, cAbs, cSum, cMax2, cMin2, cList, cIsi, tyD, asL, asF, asK, moL_lst, ModC, DivC,
  List.getElem?_cons_zero, List.getElem?_cons_succ, List.set_cons_zero, List.set_cons_succ, List.getElem?_nil, List.length_cons, List.length_nil, List.length_map, Option.map_some, Option.bind_some, Option.isSome_some, if_true, true_and, and_true, MM.push])
local macro_rules | `(tactic| walk_at "dx") => `(tactic| try simp only [eq_self_iff_true, okE_int, okE_bl, okE_non, eqD_int, eqD_bl, kq_NoneType_int, kq_NoneType_bool, kq_NoneType_list, kq_NoneType_tuple, kq_NoneType_str, kq_bool_int, kq_bool_bool, kq_bool_list, kq_bool_tuple, kq_bool_str, kq_int_int, kq_int_bool, kq_int_list, kq_int_tuple, kq_int_str, kq_str_int, kq_str_bool, kq_str_list, kq_str_tuple, kq_str_str, kq_list_int, kq_list_bool, kq_list_list, kq_list_tuple, kq_list_str, kq_tuple_int, kq_tuple_bool, kq_tuple_list, kq_tuple_tuple, kq_tuple_str, oInL, oIsB, oNotB, oEqH, oNeH, oShr, oExt, cMaxL, cMinL, cAny, cAll, cTuple, cListM, dRevL, dFld, dSetF, dAugF, dMeth, dMake, moI_ins, app_len, set_app, List.contains_cons, List.contains_nil, Bool.true_or,  Bool.true_eq_false, decide_true, not_true_eq_false, not_false_eq_true, Bool.not_true, Bool.not_false, decide_eq_true_eq, Bool.not_eq_true', decide_eq_false_iff_not, dSeq, dSet, dRaise_one, dRaise_two, dTryAs, dXf, dIsE, List.lookup_cons, List.lookup_nil, beq_self_eq_true, Bool.false_eq_true, if_false, dOp, dUn, dVar, dC, dCB, dCons, dNil, dRet, dRetN, dIf, dB, dAnd, dOr, dNot, dDrop, dNext, dMethL, dSetIx, dAndV, dOrV, dNotV, dBlV, dIfE, dLst, dTup, dLstM, dCall, dChain, dAsg, dgName, dgTup, bindD, asT, dFor, diList, diRng1, diRng2, diEnumerate, diZip, diReversed, dLc, dLcM, dYes, wipeD, dAug, dSl, dSlT, dpN, dpS,
  oI, oI0, oB0, oAdd, oNeg, oEq, oNe, oIx, oIsN, oNotN, isNon, oShl, oApp, oPop, oPopAt, cLen, cInt, cAbs, cSum, cMax2, cMin2, cList, cIsi, tyD, asL, asF, asK, moL_lst, ModC, DivC,
  List.getElem?_cons_zero, List.getElem?_cons_succ, List.set_cons_zero, List.set_cons_succ, List.getElem?_nil, List.length_cons, List.length_nil, List.length_map, Option.map_some, Option.bind_some, Option.isSome_some, if_true, true_and, and_true, MM.push])
local macro_rules | `(tactic| walk_at "lim") => `(tactic| repeat (first | (refine ⟨by decide, ?_⟩) | (refine ⟨by (try simp only [List.length_map, List.length_dropLast, List.length_append, List.length_cons, List.length_nil, List.length_replicate, List.length_take, List.length_drop, List.length_range]); (show _ ≤ 16777216); omega, ?_⟩)))

set_option hygiene false in
local macro_rules | `(tactic| walk_at "stp") => `(tactic| (refine dSeq_k fun k1 h1 => ?_; walk_at "dx"))
set_option hygiene false in
local macro_rules | `(tactic| walk_at "nxt") => `(tactic| (subst h1; (try dsimp only); refine dSeq_k fun k1 h1 => ?_; walk_at "dx"))
set_option hygiene false in
local macro_rules | `(tactic| walk_at "lst") => `(tactic| (subst h1; (try dsimp only); walk_at "dx"))
set_option hygiene false in
local macro_rules | `(tactic| walk_at "nxt2") => `(tactic| (subst h2; (try dsimp only); refine dSeq_k fun k2 h2 => ?_; walk_at "dx"))
set_option hygiene false in
local macro_rules | `(tactic| walk_at "stp2") => `(tactic| (refine dSeq_k fun k2 h2 => ?_; walk_at "dx"))
set_option hygiene false in
local macro_rules | `(tactic| walk_at "lst2") => `(tactic| (subst h2; (try dsimp only); walk_at "dx"))

/-! ### a layer's table is the sum over the layer below -/
end Dl

namespace Dl
open PySem L2
local macro_rules | `(tactic| walk_at "dl") => `(tactic| try simp only [dSeq, dSet, dRaise_one, dRaise_two, dTryAs, dXf, dIsE, List.lookup_cons, List.lookup_nil, beq_self_eq_true, Bool.false_eq_true, if_false, dOp, dUn, dVar, dC, dCB, dCons, dNil, dRet, dRetN, dIf, dB, dAnd, dOr, dNot, dDrop, dNext, dMethL, dSetIx, dAndV, dOrV, dNotV, dBlV, dIfE, dLst, dTup, dLstM, dCall, dChain, dAsg, dgName, dgTup, bindD, asT, dFor, diList, diRng1, diRng2, diEnumerate, diZip, diReversed, dLc, dLcM, dYes, wipeD, dAug, dSl, dSlT, dpN, dpS,
  oI, oI0, oB0, oAdd, oNeg, oEq, oNe, oIx, oIsN, oNotN, isNon, oShl, oApp, oPop, oPopAt, cLen, cInt, cAbs, cSum, cMax2, cMin2, cList, cIsi, tyD, asL, asF, asK, moL_lst, ModC, DivC,
  List.getElem?_cons_zero, List.getElem?_cons_succ, List.set_cons_zero, List.set_cons_succ, List.getElem?_nil, List.length_cons, List.length_nil, List.length_map, Option.map_some, Option.bind_some, Option.isSome_some, if_true, true_and, and_true, MM.push])
local macro_rules | `(tactic| walk_at "dx") => `(tactic| try simp only [eq_self_iff_true, okE_int, okE_bl, okE_non, eqD_int, eqD_bl, kq_NoneType_int, kq_NoneType_bool, kq_NoneType_list, kq_NoneType_tuple, kq_NoneType_str, kq_bool_int, kq_bool_bool, kq_bool_list, kq_bool_tuple, kq_bool_str, kq_int_int, kq_int_bool, kq_int_list, kq_int_tuple, kq_int_str, kq_str_int, kq_str_bool, kq_str_list, kq_str_tuple, kq_str_str, kq_list_int, kq_list_bool, kq_list_list, kq_list_tuple, kq_list_str, kq_tuple_int, kq_tuple_bool, kq_tuple_list, kq_tuple_tuple, kq_tuple_str, oInL, oIsB, oNotB, oEqH, oNeH, oShr, oExt, cMaxL, cMinL, cAny, cAll, cTuple, cListM, dRevL, dFld, dSetF, dAugF, dMeth, dMake, moI_ins, app_len, set_app, List.contains_cons, List.contains_nil, Bool.true_or,  Bool.true_eq_false, decide_true, not_true_eq_false, not_false_eq_true, Bool.not_true, Bool.not_false, decide_eq_true_eq, Bool.not_eq_true', decide_eq_false_iff_not, dSeq, dSet, dRaise_one, dRaise_two, dTryAs, dXf, dIsE, List.lookup_cons, List.lookup_nil, beq_self_eq_true, Bool.false_eq_true, if_false, dOp, dUn, dVar, dC, dCB, dCons, dNil, dRet, dRetN, dIf, dB, dAnd, dOr, dNot, dDrop, dNext, dMethL, dSetIx, dAndV, dOrV, dNotV, dBlV, dIfE, dLst, dTup, dLstM, dCall, dChain, dAsg, dgName, dgTup, bindD, asT, dFor, diList, diRng1, diRng2, diEnumerate, diZip, diReversed, dLc, dLcM, dYes, wipeD, dAug, dSl, dSlT, dpN, dpS,
  oI, oI0, oB0, oAdd, oNeg, oEq, oNe, oIx, oIsN, oNotN, isNon, oShl, oApp, oPop, oPopAt, cLen, cInt, cAbs, cSum, cMax2, cMin2, cList, cIsi, tyD, asL, asF, asK, moL_lst, ModC, DivC,
  List.getElem?_cons_zero, List.getElem?_cons_succ, List.set_cons_zero, List.set_cons_succ, List.getElem?_nil, List.length_cons, List.length_nil, List.length_map, Option.map_some, Option.bind_some, Option.isSome_some, if_true, true_and, and_true, MM.push])
local macro_rules | `(tactic| walk_at "lim") => `(tactic| repeat (first | (refine ⟨by decide, ?_⟩) | (refine ⟨by (try simp only [List.length_map, List.length_dropLast, List.length_append, List.length_cons, List.length_nil, List.length_replicate, List.length_take, List.length_drop, List.length_range]); (show _ ≤ 16777216); omega, ?_⟩)))

set_option hygiene false in
local macro_rules | `(tactic| walk_at "stp") => `(tactic| (refine dSeq_k fun k1 h1 => ?_; walk_at "dx"))
set_option hygiene false in
local macro_rules | `(tactic| walk_at "nxt") => `(tactic| (subst h1; (try dsimp only); refine dSeq_k fun k1 h1 => ?_; walk_at "dx"))
set_option hygiene false in
local macro_rules | `(tactic| walk_at "lst") => `(tactic| (subst h1; (try dsimp only); walk_at "dx"))
set_option hygiene false in
local macro_rules | `(tactic| walk_at "nxt2") => `(tactic| (subst h2; (try dsimp only); refine dSeq_k fun k2 h2 => ?_; walk_at "dx"))
set_option hygiene false in
local macro_rules | `(tactic| walk_at "stp2") => `(tactic| (refine dSeq_k fun k2 h2 => ?_; walk_at "dx"))
set_option hygiene false in
local macro_rules | `(tactic| walk_at "lst2") => `(tactic| (subst h2; (try dsimp only); walk_at "dx"))

/-! ### the answers as the sums say -/
end Dl

namespace Dl
open PySem L2
local macro_rules | `(tactic| walk_at "dl") => `(tactic| try simp only [dSeq, dSet, dRaise_one, dRaise_two, dTryAs, dXf, dIsE, List.lookup_cons, List.lookup_nil, beq_self_eq_true, Bool.false_eq_true, if_false, dOp, dUn, dVar, dC, dCB, dCons, dNil, dRet, dRetN, dIf, dB, dAnd, dOr, dNot, dDrop, dNext, dMethL, dSetIx, dAndV, dOrV, dNotV, dBlV, dIfE, dLst, dTup, dLstM, dCall, dChain, dAsg, dgName, dgTup, bindD, asT, dFor, diList, diRng1, diRng2, diEnumerate, diZip, diReversed, dLc, dLcM, dYes, wipeD, dAug, dSl, dSlT, dpN, dpS,
  oI, oI0, oB0, oAdd, oNeg, oEq, oNe, oIx, oIsN, oNotN, isNon, oShl, oApp, oPop, oPopAt, cLen, cInt, cAbs, cSum, cMax2, cMin2, cList, cIsi, tyD, asL, asF, asK, moL_lst, ModC, DivC,
  List.getElem?_cons_zero, List.getElem?_cons_succ, List.set_cons_zero, List.set_cons_succ, List.getElem?_nil, List.length_cons, List.length_nil, List.length_map, Option.map_some, Option.bind_some, Option.isSome_some, if_true, true_and, and_true, MM.push])
local macro_rules | `(tactic| walk_at "dx") => `(tactic| try simp only [eq_self_iff_true, okE_int, okE_bl, okE_non, eqD_int, eqD_bl, kq_NoneType_int, kq_NoneType_bool, kq_NoneType_list, kq_NoneType_tuple, kq_NoneType_str, kq_bool_int, kq_bool_bool, kq_bool_list, kq_bool_tuple, kq_bool_str, kq_int_int, kq_int_bool, kq_int_list, kq_int_tuple, kq_int_str, kq_str_int, kq_str_bool, kq_str_list, kq_str_tuple, kq_str_str, kq_list_int, kq_list_bool, kq_list_list, kq_list_tuple, kq_list_str, kq_tuple_int, kq_tuple_bool, kq_tuple_list, kq_tuple_tuple, kq_tuple_str, oInL, oIsB, oNotB, oEqH, oNeH, oShr, oExt, cMaxL, cMinL, cAny, cAll, cTuple, cListM, dRevL, dFld, dSetF, dAugF, dMeth, dMake, moI_ins, app_len, set_app, List.contains_cons, List.contains_nil, Bool.true_or,  Bool.true_eq_false, decide_true, not_true_eq_false, not_false_eq_true, Bool.not_true, Bool.not_false, decide_eq_true_eq, Bool.not_eq_true', decide_eq_false_iff_not, dSeq, dSet, dRaise_one, dRaise_two, dTryAs, dXf, dIsE, List.lookup_cons, List.lookup_nil, beq_self_eq_true, Bool.false_eq_true, if_false, dOp, dUn, dVar, dC, dCB, dCons, dNil, dRet, dRetN, dIf, dB, dAnd, dOr, dNot, dDrop, dNext, dMethL, dSetIx, dAndV, dOrV, dNotV, dBlV, dIfE, dLst, dTup, dLstM, dCall, dChain, dAsg, dgName, dgTup, bindD, asT, dFor, diList, diRng1, diRng2, diEnumerate, diZip, diReversed, dLc, dLcM, dYes, wipeD, dAug, dSl, dSlT, dpN, dpS,
  oI, oI0, oB0, oAdd, oNeg, oEq, oNe, oIx, oIsN, oNotN, isNon, oShl, oApp, oPop, oPopAt, cLen, cInt, cAbs, cSum, cMax2, cMin2, cList, cIsi, tyD, asL, asF, asK, moL_lst, ModC, DivC,
  List.getElem?_cons_zero, List.getElem?_cons_succ, List.set_cons_zero, List.set_cons_succ, List.getElem?_nil, List.length_cons, List.length_nil, List.length_map, Option.map_some, Option.bind_some, Option.isSome_some, if_true, true_and, and_true, MM.push])
local macro_rules | `(tactic| walk_at "lim") => `(tactic| repeat (first | (refine ⟨by decide, ?_⟩) | (refine ⟨by (try simp only [List.length_map, List.length_dropLast, List.length_append, List.length_cons, List.length_nil, List.length_replicate, List.length_take, List.length_drop, List.length_range]); (show _ ≤ 16777216); omega, ?_⟩)))

set_option hygiene false in
local macro_rules | `(tactic| walk_at "stp") => `(tactic| (refine dSeq_k fun k1 h1 => ?_; walk_at "dx"))
set_option hygiene false in
local macro_rules | `(tactic| walk_at "nxt") => `(tactic| (subst h1; (try dsimp only); refine dSeq_k fun k1 h1 => ?_; walk_at "dx"))
set_option hygiene false in
local macro_rules | `(tactic| walk_at "lst") => `(tactic| (subst h1; (try dsimp only); walk_at "dx"))
set_option hygiene false in
local macro_rules | `(tactic| walk_at "nxt2") => `(tactic| (subst h2; (try dsimp only); refine dSeq_k fun k2 h2 => ?_; walk_at "dx"))
set_option hygiene false in
local macro_rules | `(tactic| walk_at "stp2") => `(tactic| (refine dSeq_k fun k2 h2 => ?_; walk_at "dx"))
set_option hygiene false in
local macro_rules | `(tactic| walk_at "lst2") => `(tactic| (subst h2; (try dsimp only); walk_at "dx"))
set_option hygiene false in
local macro_rules | `(tactic| walk_at "an") => `(tactic| (walk_at "dx"; (try simp only [dgTupG, dgsCons, dgsNil, dgFld, asT, dVar, List.length_cons, List.length_nil, List.getElem?_cons_zero, ob, obL, hk, moI_ins, Fl_Answerer.circuit, Fl_Answerer.tables, Fl_Answerer.bits, Fl_Answerer.p, Fl_Answerer.steps, Fl_Answerer.layer, Fl_Answerer.round, Fl_Answerer.wide, Fl_Answerer.gates, Fl_Answerer.near, Fl_Answerer.columns, Fl_Answerer.first, Fl_Answerer.second, Fl_Answerer.share, Fl_Answerer.below, Fl_Answerer.factors, Fl_Answerer.rest, Fl_Answerer.left,
  List.getElem?_set_self, List.set_set, List.length_set, look_put, String.reduceEq, reduceIte, exists_eq_left', Option.some.injEq, true_and, and_true])))

/-! ### the weights of a layer -/
end Dl

namespace Dl
open PySem L2
/-! ### the bluffer -/
structure BS where
  s : AS
  cl : List Int
  ch : List Int
  used : Nat
  claim : Int
  layer : Nat
  point : List Int
  throws : List Int
  sent : List Int
def blKeys : List String := ["honest", "circuit", "bits", "p", "claimed", "choices", "used", "claim", "layer", "point", "throws", "sent"]
class Fl_Bluffer (fl : String → List String) : Prop where
  honest : (fl "honest").contains "Bluffer" = true
  circuit : (fl "circuit").contains "Bluffer" = true
  bits : (fl "bits").contains "Bluffer" = true
  p : (fl "p").contains "Bluffer" = true
  claimed : (fl "claimed").contains "Bluffer" = true
  choices : (fl "choices").contains "Bluffer" = true
  used : (fl "used").contains "Bluffer" = true
  claim : (fl "claim").contains "Bluffer" = true
  layer : (fl "layer").contains "Bluffer" = true
  point : (fl "point").contains "Bluffer" = true
  throws : (fl "throws").contains "Bluffer" = true
  sent : (fl "sent").contains "Bluffer" = true
  abits : (fl "bits").contains "Answerer" = true
  ap : (fl "p").contains "Answerer" = true
local macro_rules | `(tactic| walk_at "dl") => `(tactic| try simp only [dSeq, dSet, dRaise_one, dRaise_two, dTryAs, dXf, dIsE, List.lookup_cons, List.lookup_nil, beq_self_eq_true, Bool.false_eq_true, if_false, dOp, dUn, dVar, dC, dCB, dCons, dNil, dRet, dRetN, dIf, dB, dAnd, dOr, dNot, dDrop, dNext, dMethL, dSetIx, dAndV, dOrV, dNotV, dBlV, dIfE, dLst, dTup, dLstM, dCall, dChain, dAsg, dgName, dgTup, bindD, asT, dFor, diList, diRng1, diRng2, diEnumerate, diZip, diReversed, dLc, dLcM, dYes, wipeD, dAug, dSl, dSlT, dpN, dpS,
  oI, oI0, oB0, oAdd, oNeg, oEq, oNe, oIx, oIsN, oNotN, isNon, oShl, oApp, oPop, oPopAt, cLen, cInt, cAbs, cSum, cMax2, cMin2, cList, cIsi, tyD, asL, asF, asK, moL_lst, ModC, DivC,
  List.getElem?_cons_zero, List.getElem?_cons_succ, List.set_cons_zero, List.set_cons_succ, List.getElem?_nil, List.length_cons, List.length_nil, List.length_map, Option.map_some, Option.bind_some, Option.isSome_some, if_true, true_and, and_true, MM.push])
local macro_rules | `(tactic| walk_at "dx") => `(tactic| try simp only [eq_self_iff_true, okE_int, okE_bl, okE_non, eqD_int, eqD_bl, kq_NoneType_int, kq_NoneType_bool, kq_NoneType_list, kq_NoneType_tuple, kq_NoneType_str, kq_bool_int, kq_bool_bool, kq_bool_list, kq_bool_tuple, kq_bool_str, kq_int_int, kq_int_bool, kq_int_list, kq_int_tuple, kq_int_str, kq_str_int, kq_str_bool, kq_str_list, kq_str_tuple, kq_str_str, kq_list_int, kq_list_bool, kq_list_list, kq_list_tuple, kq_list_str, kq_tuple_int, kq_tuple_bool, kq_tuple_list, kq_tuple_tuple, kq_tuple_str, oInL, oIsB, oNotB, oEqH, oNeH, oShr, oExt, cMaxL, cMinL, cAny, cAll, cTuple, cListM, dRevL, dFld, dSetF, dAugF, dMeth, dMake, moI_ins, app_len, set_app, List.contains_cons, List.contains_nil, Bool.true_or,  Bool.true_eq_false, decide_true, not_true_eq_false, not_false_eq_true, Bool.not_true, Bool.not_false, decide_eq_true_eq, Bool.not_eq_true', decide_eq_false_iff_not, dSeq, dSet, dRaise_one, dRaise_two, dTryAs, dXf, dIsE, List.lookup_cons, List.lookup_nil, beq_self_eq_true, Bool.false_eq_true, if_false, dOp, dUn, dVar, dC, dCB, dCons, dNil, dRet, dRetN, dIf, dB, dAnd, dOr, dNot, dDrop, dNext, dMethL, dSetIx, dAndV, dOrV, dNotV, dBlV, dIfE, dLst, dTup, dLstM, dCall, dChain, dAsg, dgName, dgTup, bindD, asT, dFor, diList, diRng1, diRng2, diEnumerate, diZip, diReversed, dLc, dLcM, dYes, wipeD, dAug, dSl, dSlT, dpN, dpS,
  oI, oI0, oB0, oAdd, oNeg, oEq, oNe, oIx, oIsN, oNotN, isNon, oShl, oApp, oPop, oPopAt, cLen, cInt, cAbs, cSum, cMax2, cMin2, cList, cIsi, tyD, asL, asF, asK, moL_lst, ModC, DivC,
  List.getElem?_cons_zero, List.getElem?_cons_succ, List.set_cons_zero, List.set_cons_succ, List.getElem?_nil, List.length_cons, List.length_nil, List.length_map, Option.map_some, Option.bind_some, Option.isSome_some, if_true, true_and, and_true, MM.push])
local macro_rules | `(tactic| walk_at "lim") => `(tactic| repeat (first | (refine ⟨by decide, ?_⟩) | (refine ⟨by (try simp only [List.length_map, List.length_dropLast, List.length_append, List.length_cons, List.length_nil, List.length_replicate, List.length_take, List.length_drop, List.length_range]); (show _ ≤ 16777216); omega, ?_⟩)))

set_option hygiene false in
local macro_rules | `(tactic| walk_at "stp") => `(tactic| (refine dSeq_k fun k1 h1 => ?_; walk_at "dx"))
set_option hygiene false in
local macro_rules | `(tactic| walk_at "nxt") => `(tactic| (subst h1; (try dsimp only); refine dSeq_k fun k1 h1 => ?_; walk_at "dx"))
set_option hygiene false in
local macro_rules | `(tactic| walk_at "lst") => `(tactic| (subst h1; (try dsimp only); walk_at "dx"))
set_option hygiene false in
local macro_rules | `(tactic| walk_at "nxt2") => `(tactic| (subst h2; (try dsimp only); refine dSeq_k fun k2 h2 => ?_; walk_at "dx"))
set_option hygiene false in
local macro_rules | `(tactic| walk_at "stp2") => `(tactic| (refine dSeq_k fun k2 h2 => ?_; walk_at "dx"))
set_option hygiene false in
local macro_rules | `(tactic| walk_at "lst2") => `(tactic| (subst h2; (try dsimp only); walk_at "dx"))
set_option hygiene false in
local macro_rules | `(tactic| walk_at "an") => `(tactic| (walk_at "dx"; (try simp only [dgTupG, dgsCons, dgsNil, dgFld, asT, dVar, List.length_cons, List.length_nil, List.getElem?_cons_zero, ob, obL, hk, moI_ins, Fl_Answerer.circuit, Fl_Answerer.tables, Fl_Answerer.bits, Fl_Answerer.p, Fl_Answerer.steps, Fl_Answerer.layer, Fl_Answerer.round, Fl_Answerer.wide, Fl_Answerer.gates, Fl_Answerer.near, Fl_Answerer.columns, Fl_Answerer.first, Fl_Answerer.second, Fl_Answerer.share, Fl_Answerer.below, Fl_Answerer.factors, Fl_Answerer.rest, Fl_Answerer.left,
  List.getElem?_set_self, List.set_set, List.length_set, look_put, String.reduceEq, reduceIte, exists_eq_left', Option.some.injEq, true_and, and_true])))
set_option hygiene false in
local macro_rules | `(tactic| walk_at "bl") => `(tactic| (walk_at "dx"; (try simp only [dgTupG, dgsCons, dgsNil, dgFld, asT, dVar, List.length_cons, List.length_nil, List.getElem?_cons_zero, ob, obL, obh, hk, moI_ins, Fl_Bluffer.honest, Fl_Bluffer.circuit, Fl_Bluffer.bits, Fl_Bluffer.p, Fl_Bluffer.claimed, Fl_Bluffer.choices, Fl_Bluffer.used, Fl_Bluffer.claim, Fl_Bluffer.layer, Fl_Bluffer.point, Fl_Bluffer.throws, Fl_Bluffer.sent, Fl_Bluffer.abits, Fl_Bluffer.ap,
  List.getElem?_set_self, List.set_set, List.length_set, look_put, String.reduceEq, reduceIte, exists_eq_left', Option.some.injEq, true_and, and_true])))

theorem clF_put {n : Nat} {f : String} {v : D} (hv : clD n v = true) : ∀ {fs : List (String × D)}, clF n fs = true → clF n (putD f v fs) = true
  | [], _ => by show (clD n v && true) = true; rw [hv]; rfl
  | (k, y) :: r, h => by
    have h : (clD n y && clF n r) = true := h
    rw [Bool.and_eq_true] at h
    unfold putD
    by_cases e : k = f
    · rw [if_pos e]; show (clD n v && clF n r) = true; rw [hv, h.2]; rfl
    · rw [if_neg e]; show (clD n y && clF n (putD f v r)) = true; rw [h.1, clF_put hv h.2]; rfl
structure BF (fs : List (String × D)) (h : Nat) (s : BS) : Prop where
  k : KeysOK blKeys fs
  cl : ∀ n, h < n → clF n fs = true
  honest : fs.lookup "honest" = some (.hnd h)
  circuit : fs.lookup "circuit" = some (cD s.s.c)
  bits : fs.lookup "bits" = some (.int (s.s.b : Nat))
  p : fs.lookup "p" = some (.int s.s.c.p)
  claimed : fs.lookup "claimed" = some (.lst (s.cl.map D.int))
  choices : fs.lookup "choices" = some (.lst (s.ch.map D.int))
  used : fs.lookup "used" = some (.int (s.used : Nat))
  claim : fs.lookup "claim" = some (.int s.claim)
structure BF1 (fs : List (String × D)) (h : Nat) (s : BS) : Prop extends BF fs h s where
  layer : fs.lookup "layer" = some (.int (s.layer : Nat))
  point : fs.lookup "point" = some (.lst (s.point.map D.int))
  throws : fs.lookup "throws" = some (.lst (s.throws.map D.int))
def chF (ch : List Int) (p : Int) (u : Nat) : Int := if u < ch.length then gi ch (u : Nat) % p else 0
theorem BF.usd {fs : List (String × D)} {h : Nat} {s : BS} (b : BF fs h s) (u : Nat) : BF (putD "used" (.int (u : Nat)) fs) h { s with used := u } :=
  ⟨b.k.put (by decide), fun n hn => clF_put rfl (b.cl n hn), (lk_ne (by decide)).trans b.honest, (lk_ne (by decide)).trans b.circuit, (lk_ne (by decide)).trans b.bits, (lk_ne (by decide)).trans b.p, (lk_ne (by decide)).trans b.claimed, (lk_ne (by decide)).trans b.choices, lk_eq, (lk_ne (by decide)).trans b.claim⟩
theorem BF1.usd {fs : List (String × D)} {h : Nat} {s : BS} (b : BF1 fs h s) (u : Nat) : BF1 (putD "used" (.int (u : Nat)) fs) h { s with used := u } :=
  ⟨b.toBF.usd u, (lk_ne (by decide)).trans b.layer, (lk_ne (by decide)).trans b.point, (lk_ne (by decide)).trans b.throws⟩
theorem BF.claimd {fs : List (String × D)} {h : Nat} {s : BS} (b : BF fs h s) (u : Int) : BF (putD "claim" (.int u) fs) h { s with claim := u } :=
  ⟨b.k.put (by decide), fun n hn => clF_put rfl (b.cl n hn), (lk_ne (by decide)).trans b.honest, (lk_ne (by decide)).trans b.circuit, (lk_ne (by decide)).trans b.bits, (lk_ne (by decide)).trans b.p, (lk_ne (by decide)).trans b.claimed, (lk_ne (by decide)).trans b.choices, (lk_ne (by decide)).trans b.used, lk_eq⟩
theorem BF.putE {fs : List (String × D)} {h : Nat} {s : BS} (b : BF fs h s) {f : String} {v : D} (hf : f ∈ ["layer", "point", "throws", "sent"]) (hv : plD v = true) : BF (putD f v fs) h s := by
  have ne : ∀ g, g ∉ ["layer", "point", "throws", "sent"] → f ≠ g := fun g hg e => hg (by rw [← e]; exact hf)
  have hb : f ∈ blKeys := by
    simp only [List.mem_cons, List.not_mem_nil, or_false] at hf
    rcases hf with rfl | rfl | rfl | rfl <;> decide
  exact ⟨b.k.put hb, fun n hn => clF_put (clD_pl v hv) (b.cl n hn), (lk_ne (ne _ (by decide))).trans b.honest, (lk_ne (ne _ (by decide))).trans b.circuit, (lk_ne (ne _ (by decide))).trans b.bits, (lk_ne (ne _ (by decide))).trans b.p, (lk_ne (ne _ (by decide))).trans b.claimed, (lk_ne (ne _ (by decide))).trans b.choices, (lk_ne (ne _ (by decide))).trans b.used, (lk_ne (ne _ (by decide))).trans b.claim⟩
theorem BF.same {fs : List (String × D)} {h : Nat} {s s' : BS} (b : BF fs h s) (e1 : s'.s.c = s.s.c) (e2 : s'.s.b = s.s.b) (e : (s'.cl, s'.ch, s'.used, s'.claim) = (s.cl, s.ch, s.used, s.claim)) : BF fs h s' := by
  simp only [Prod.mk.injEq] at e
  obtain ⟨e3, e4, e5, e6⟩ := e
  exact ⟨b.k, b.cl, b.honest, by rw [e1]; exact b.circuit, by rw [e2]; exact b.bits, by rw [e1]; exact b.p, by rw [e3]; exact b.claimed, by rw [e4]; exact b.choices, by rw [e5]; exact b.used, by rw [e6]; exact b.claim⟩
theorem set_same {α : Type} {l : List α} {k : Nat} {x : α} (h : l[k]? = some x) : l.set k x = l := by
  refine List.ext_getElem? fun i => ?_
  rw [List.getElem?_set]
  split
  · rename_i e
    subst e
    rw [h]
    split
    · rfl
    · rename_i z
      rw [List.getElem?_eq_none (by omega)] at h
      cases h
  · rfl
theorem ne_of {M : List MO} {k h : Nat} {c d : String} {fs fa : List (String × D)} (a : M[k]? = some (.ins c fs)) (b : M[h]? = some (.ins d fa)) (hcd : c ≠ d) : k ≠ h := fun e => by
  subst e
  rw [a] at b
  injection b with b
  injection b with b
  exact hcd b
def bBegin (s : BS) (l : Nat) (g : List Int) : BS := { s with s := beginF s.s l g, claim := if l = 0 then valAt s.cl g s.s.c.p else s.claim, layer := l, point := g, throws := [] }
def bThrow (s : BS) (z : Int) : BS := { s with s := throwF s.s z, claim := valV s.sent z s.s.c.p, throws := s.throws ++ [z] }
end Dl

namespace Dl
open PySem L2
local macro_rules | `(tactic| walk_at "dl") => `(tactic| try simp only [dSeq, dSet, dRaise_one, dRaise_two, dTryAs, dXf, dIsE, List.lookup_cons, List.lookup_nil, beq_self_eq_true, Bool.false_eq_true, if_false, dOp, dUn, dVar, dC, dCB, dCons, dNil, dRet, dRetN, dIf, dB, dAnd, dOr, dNot, dDrop, dNext, dMethL, dSetIx, dAndV, dOrV, dNotV, dBlV, dIfE, dLst, dTup, dLstM, dCall, dChain, dAsg, dgName, dgTup, bindD, asT, dFor, diList, diRng1, diRng2, diEnumerate, diZip, diReversed, dLc, dLcM, dYes, wipeD, dAug, dSl, dSlT, dpN, dpS,
  oI, oI0, oB0, oAdd, oNeg, oEq, oNe, oIx, oIsN, oNotN, isNon, oShl, oApp, oPop, oPopAt, cLen, cInt, cAbs, cSum, cMax2, cMin2, cList, cIsi, tyD, asL, asF, asK, moL_lst, ModC, DivC,
  List.getElem?_cons_zero, List.getElem?_cons_succ, List.set_cons_zero, List.set_cons_succ, List.getElem?_nil, List.length_cons, List.length_nil, List.length_map, Option.map_some, Option.bind_some, Option.isSome_some, if_true, true_and, and_true, MM.push])
local macro_rules | `(tactic| walk_at "dx") => `(tactic| try simp only [eq_self_iff_true, okE_int, okE_bl, okE_non, eqD_int, eqD_bl, kq_NoneType_int, kq_NoneType_bool, kq_NoneType_list, kq_NoneType_tuple, kq_NoneType_str, kq_bool_int, kq_bool_bool, kq_bool_list, kq_bool_tuple, kq_bool_str, kq_int_int, kq_int_bool, kq_int_list, kq_int_tuple, kq_int_str, kq_str_int, kq_str_bool, kq_str_list, kq_str_tuple, kq_str_str, kq_list_int, kq_list_bool, kq_list_list, kq_list_tuple, kq_list_str, kq_tuple_int, kq_tuple_bool, kq_tuple_list, kq_tuple_tuple, kq_tuple_str, oInL, oIsB, oNotB, oEqH, oNeH, oShr, oExt, cMaxL, cMinL, cAny, cAll, cTuple, cListM, dRevL, dFld, dSetF, dAugF, dMeth, dMake, moI_ins, app_len, set_app, List.contains_cons, List.contains_nil, Bool.true_or,  Bool.true_eq_false, decide_true, not_true_eq_false, not_false_eq_true, Bool.not_true, Bool.not_false, decide_eq_true_eq, Bool.not_eq_true', decide_eq_false_iff_not, dSeq, dSet, dRaise_one, dRaise_two, dTryAs, dXf, dIsE, List.lookup_cons, List.lookup_nil, beq_self_eq_true, Bool.false_eq_true, if_false, dOp, dUn, dVar, dC, dCB, dCons, dNil, dRet, dRetN, dIf, dB, dAnd, dOr, dNot, dDrop, dNext, dMethL, dSetIx, dAndV, dOrV, dNotV, dBlV, dIfE, dLst, dTup, dLstM, dCall, dChain, dAsg, dgName, dgTup, bindD, asT, dFor, diList, diRng1, diRng2, diEnumerate, diZip, diReversed, dLc, dLcM, dYes, wipeD, dAug, dSl, dSlT, dpN, dpS,
  oI, oI0, oB0, oAdd, oNeg, oEq, oNe, oIx, oIsN, oNotN, isNon, oShl, oApp, oPop, oPopAt, cLen, cInt, cAbs, cSum, cMax2, cMin2, cList, cIsi, tyD, asL, asF, asK, moL_lst, ModC, DivC,
  List.getElem?_cons_zero, List.getElem?_cons_succ, List.set_cons_zero, List.set_cons_succ, List.getElem?_nil, List.length_cons, List.length_nil, List.length_map, Option.map_some, Option.bind_some, Option.isSome_some, if_true, true_and, and_true, MM.push])
local macro_rules | `(tactic| walk_at "lim") => `(tactic| repeat (first | (refine ⟨by decide, ?_⟩) | (refine ⟨by (try simp only [List.length_map, List.length_dropLast, List.length_append, List.length_cons, List.length_nil, List.length_replicate, List.length_take, List.length_drop, List.length_range]); (show _ ≤ 16777216); omega, ?_⟩)))

set_option hygiene false in
local macro_rules | `(tactic| walk_at "stp") => `(tactic| (refine dSeq_k fun k1 h1 => ?_; walk_at "dx"))
set_option hygiene false in
local macro_rules | `(tactic| walk_at "nxt") => `(tactic| (subst h1; (try dsimp only); refine dSeq_k fun k1 h1 => ?_; walk_at "dx"))
set_option hygiene false in
local macro_rules | `(tactic| walk_at "lst") => `(tactic| (subst h1; (try dsimp only); walk_at "dx"))
set_option hygiene false in
local macro_rules | `(tactic| walk_at "nxt2") => `(tactic| (subst h2; (try dsimp only); refine dSeq_k fun k2 h2 => ?_; walk_at "dx"))
set_option hygiene false in
local macro_rules | `(tactic| walk_at "stp2") => `(tactic| (refine dSeq_k fun k2 h2 => ?_; walk_at "dx"))
set_option hygiene false in
local macro_rules | `(tactic| walk_at "lst2") => `(tactic| (subst h2; (try dsimp only); walk_at "dx"))
set_option hygiene false in
local macro_rules | `(tactic| walk_at "an") => `(tactic| (walk_at "dx"; (try simp only [dgTupG, dgsCons, dgsNil, dgFld, asT, dVar, List.length_cons, List.length_nil, List.getElem?_cons_zero, ob, obL, hk, moI_ins, Fl_Answerer.circuit, Fl_Answerer.tables, Fl_Answerer.bits, Fl_Answerer.p, Fl_Answerer.steps, Fl_Answerer.layer, Fl_Answerer.round, Fl_Answerer.wide, Fl_Answerer.gates, Fl_Answerer.near, Fl_Answerer.columns, Fl_Answerer.first, Fl_Answerer.second, Fl_Answerer.share, Fl_Answerer.below, Fl_Answerer.factors, Fl_Answerer.rest, Fl_Answerer.left,
  List.getElem?_set_self, List.set_set, List.length_set, look_put, String.reduceEq, reduceIte, exists_eq_left', Option.some.injEq, true_and, and_true])))
set_option hygiene false in
local macro_rules | `(tactic| walk_at "bl") => `(tactic| (walk_at "dx"; (try simp only [dgTupG, dgsCons, dgsNil, dgFld, asT, dVar, List.length_cons, List.length_nil, List.getElem?_cons_zero, ob, obL, obh, hk, moI_ins, Fl_Bluffer.honest, Fl_Bluffer.circuit, Fl_Bluffer.bits, Fl_Bluffer.p, Fl_Bluffer.claimed, Fl_Bluffer.choices, Fl_Bluffer.used, Fl_Bluffer.claim, Fl_Bluffer.layer, Fl_Bluffer.point, Fl_Bluffer.throws, Fl_Bluffer.sent, Fl_Bluffer.abits, Fl_Bluffer.ap,
  List.getElem?_set_self, List.set_set, List.length_set, look_put, String.reduceEq, reduceIte, exists_eq_left', Option.some.injEq, true_and, and_true])))

/-! ### the bluffer's polynomials -/
theorem polyF_len {s : AS} : (polyF s).length = if s.round < s.b then 4 else 3 := by
  unfold polyF
  split <;> rw [List.length_map, List.length_range]
end Dl

namespace Dl
open PySem L2
local macro_rules | `(tactic| walk_at "dl") => `(tactic| try simp only [dSeq, dSet, dRaise_one, dRaise_two, dTryAs, dXf, dIsE, List.lookup_cons, List.lookup_nil, beq_self_eq_true, Bool.false_eq_true, if_false, dOp, dUn, dVar, dC, dCB, dCons, dNil, dRet, dRetN, dIf, dB, dAnd, dOr, dNot, dDrop, dNext, dMethL, dSetIx, dAndV, dOrV, dNotV, dBlV, dIfE, dLst, dTup, dLstM, dCall, dChain, dAsg, dgName, dgTup, bindD, asT, dFor, diList, diRng1, diRng2, diEnumerate, diZip, diReversed, dLc, dLcM, dYes, wipeD, dAug, dSl, dSlT, dpN, dpS,
  oI, oI0, oB0, oAdd, oNeg, oEq, oNe, oIx, oIsN, oNotN, isNon, oShl, oApp, oPop, oPopAt, cLen, cInt, cAbs, cSum, cMax2, cMin2, cList, cIsi, tyD, asL, asF, asK, moL_lst, ModC, DivC,
  List.getElem?_cons_zero, List.getElem?_cons_succ, List.set_cons_zero, List.set_cons_succ, List.getElem?_nil, List.length_cons, List.length_nil, List.length_map, Option.map_some, Option.bind_some, Option.isSome_some, if_true, true_and, and_true, MM.push])
local macro_rules | `(tactic| walk_at "dx") => `(tactic| try simp only [eq_self_iff_true, okE_int, okE_bl, okE_non, eqD_int, eqD_bl, kq_NoneType_int, kq_NoneType_bool, kq_NoneType_list, kq_NoneType_tuple, kq_NoneType_str, kq_bool_int, kq_bool_bool, kq_bool_list, kq_bool_tuple, kq_bool_str, kq_int_int, kq_int_bool, kq_int_list, kq_int_tuple, kq_int_str, kq_str_int, kq_str_bool, kq_str_list, kq_str_tuple, kq_str_str, kq_list_int, kq_list_bool, kq_list_list, kq_list_tuple, kq_list_str, kq_tuple_int, kq_tuple_bool, kq_tuple_list, kq_tuple_tuple, kq_tuple_str, oInL, oIsB, oNotB, oEqH, oNeH, oShr, oExt, cMaxL, cMinL, cAny, cAll, cTuple, cListM, dRevL, dFld, dSetF, dAugF, dMeth, dMake, moI_ins, app_len, set_app, List.contains_cons, List.contains_nil, Bool.true_or,  Bool.true_eq_false, decide_true, not_true_eq_false, not_false_eq_true, Bool.not_true, Bool.not_false, decide_eq_true_eq, Bool.not_eq_true', decide_eq_false_iff_not, dSeq, dSet, dRaise_one, dRaise_two, dTryAs, dXf, dIsE, List.lookup_cons, List.lookup_nil, beq_self_eq_true, Bool.false_eq_true, if_false, dOp, dUn, dVar, dC, dCB, dCons, dNil, dRet, dRetN, dIf, dB, dAnd, dOr, dNot, dDrop, dNext, dMethL, dSetIx, dAndV, dOrV, dNotV, dBlV, dIfE, dLst, dTup, dLstM, dCall, dChain, dAsg, dgName, dgTup, bindD, asT, dFor, diList, diRng1, diRng2, diEnumerate, diZip, diReversed, dLc, dLcM, dYes, wipeD, dAug, dSl, dSlT, dpN, dpS,
  oI, oI0, oB0, oAdd, oNeg, oEq, oNe, oIx, oIsN, oNotN, isNon, oShl, oApp, oPop, oPopAt, cLen, cInt, cAbs, cSum, cMax2, cMin2, cList, cIsi, tyD, asL, asF, asK, moL_lst, ModC, DivC,
  List.getElem?_cons_zero, List.getElem?_cons_succ, List.set_cons_zero, List.set_cons_succ, List.getElem?_nil, List.length_cons, List.length_nil, List.length_map, Option.map_some, Option.bind_some, Option.isSome_some, if_true, true_and, and_true, MM.push])
local macro_rules | `(tactic| walk_at "lim") => `(tactic| repeat (first | (refine ⟨by decide, ?_⟩) | (refine ⟨by (try simp only [List.length_map, List.length_dropLast, List.length_append, List.length_cons, List.length_nil, List.length_replicate, List.length_take, List.length_drop, List.length_range]); (show _ ≤ 16777216); omega, ?_⟩)))

set_option hygiene false in
local macro_rules | `(tactic| walk_at "stp") => `(tactic| (refine dSeq_k fun k1 h1 => ?_; walk_at "dx"))
set_option hygiene false in
local macro_rules | `(tactic| walk_at "nxt") => `(tactic| (subst h1; (try dsimp only); refine dSeq_k fun k1 h1 => ?_; walk_at "dx"))
set_option hygiene false in
local macro_rules | `(tactic| walk_at "lst") => `(tactic| (subst h1; (try dsimp only); walk_at "dx"))
set_option hygiene false in
local macro_rules | `(tactic| walk_at "nxt2") => `(tactic| (subst h2; (try dsimp only); refine dSeq_k fun k2 h2 => ?_; walk_at "dx"))
set_option hygiene false in
local macro_rules | `(tactic| walk_at "stp2") => `(tactic| (refine dSeq_k fun k2 h2 => ?_; walk_at "dx"))
set_option hygiene false in
local macro_rules | `(tactic| walk_at "lst2") => `(tactic| (subst h2; (try dsimp only); walk_at "dx"))
set_option hygiene false in
local macro_rules | `(tactic| walk_at "an") => `(tactic| (walk_at "dx"; (try simp only [dgTupG, dgsCons, dgsNil, dgFld, asT, dVar, List.length_cons, List.length_nil, List.getElem?_cons_zero, ob, obL, hk, moI_ins, Fl_Answerer.circuit, Fl_Answerer.tables, Fl_Answerer.bits, Fl_Answerer.p, Fl_Answerer.steps, Fl_Answerer.layer, Fl_Answerer.round, Fl_Answerer.wide, Fl_Answerer.gates, Fl_Answerer.near, Fl_Answerer.columns, Fl_Answerer.first, Fl_Answerer.second, Fl_Answerer.share, Fl_Answerer.below, Fl_Answerer.factors, Fl_Answerer.rest, Fl_Answerer.left,
  List.getElem?_set_self, List.set_set, List.length_set, look_put, String.reduceEq, reduceIte, exists_eq_left', Option.some.injEq, true_and, and_true])))
set_option hygiene false in
local macro_rules | `(tactic| walk_at "bl") => `(tactic| (walk_at "dx"; (try simp only [dgTupG, dgsCons, dgsNil, dgFld, asT, dVar, List.length_cons, List.length_nil, List.getElem?_cons_zero, ob, obL, obh, hk, moI_ins, Fl_Bluffer.honest, Fl_Bluffer.circuit, Fl_Bluffer.bits, Fl_Bluffer.p, Fl_Bluffer.claimed, Fl_Bluffer.choices, Fl_Bluffer.used, Fl_Bluffer.claim, Fl_Bluffer.layer, Fl_Bluffer.point, Fl_Bluffer.throws, Fl_Bluffer.sent, Fl_Bluffer.abits, Fl_Bluffer.ap,
  List.getElem?_set_self, List.set_set, List.length_set, look_put, String.reduceEq, reduceIte, exists_eq_left', Option.some.injEq, true_and, and_true])))

end Dl

namespace Dl
open PySem L2
local macro_rules | `(tactic| walk_at "dl") => `(tactic| try simp only [dSeq, dSet, dRaise_one, dRaise_two, dTryAs, dXf, dIsE, List.lookup_cons, List.lookup_nil, beq_self_eq_true, Bool.false_eq_true, if_false, dOp, dUn, dVar, dC, dCB, dCons, dNil, dRet, dRetN, dIf, dB, dAnd, dOr, dNot, dDrop, dNext, dMethL, dSetIx, dAndV, dOrV, dNotV, dBlV, dIfE, dLst, dTup, dLstM, dCall, dChain, dAsg, dgName, dgTup, bindD, asT, dFor, diList, diRng1, diRng2, diEnumerate, diZip, diReversed, dLc, dLcM, dYes, wipeD, dAug, dSl, dSlT, dpN, dpS,
  oI, oI0, oB0, oAdd, oNeg, oEq, oNe, oIx, oIsN, oNotN, isNon, oShl, oApp, oPop, oPopAt, cLen, cInt, cAbs, cSum, cMax2, cMin2, cList, cIsi, tyD, asL, asF, asK, moL_lst, ModC, DivC,
  List.getElem?_cons_zero, List.getElem?_cons_succ, List.set_cons_zero, List.set_cons_succ, List.getElem?_nil, List.length_cons, List.length_nil, List.length_map, Option.map_some, Option.bind_some, Option.isSome_some, if_true, true_and, and_true, MM.push])
local macro_rules | `(tactic| walk_at "dx") => `(tactic| try simp only [eq_self_iff_true, okE_int, okE_bl, okE_non, eqD_int, eqD_bl, kq_NoneType_int, kq_NoneType_bool, kq_NoneType_list, kq_NoneType_tuple, kq_NoneType_str, kq_bool_int, kq_bool_bool, kq_bool_list, kq_bool_tuple, kq_bool_str, kq_int_int, kq_int_bool, kq_int_list, kq_int_tuple, kq_int_str, kq_str_int, kq_str_bool, kq_str_list, kq_str_tuple, kq_str_str, kq_list_int, kq_list_bool, kq_list_list, kq_list_tuple, kq_list_str, kq_tuple_int, kq_tuple_bool, kq_tuple_list, kq_tuple_tuple, kq_tuple_str, oInL, oIsB, oNotB, oEqH, oNeH, oShr, oExt, cMaxL, cMinL, cAny, cAll, cTuple, cListM, dRevL, dFld, dSetF, dAugF, dMeth, dMake, moI_ins, app_len, set_app, List.contains_cons, List.contains_nil, Bool.true_or,  Bool.true_eq_false, decide_true, not_true_eq_false, not_false_eq_true, Bool.not_true, Bool.not_false, decide_eq_true_eq, Bool.not_eq_true', decide_eq_false_iff_not, dSeq, dSet, dRaise_one, dRaise_two, dTryAs, dXf, dIsE, List.lookup_cons, List.lookup_nil, beq_self_eq_true, Bool.false_eq_true, if_false, dOp, dUn, dVar, dC, dCB, dCons, dNil, dRet, dRetN, dIf, dB, dAnd, dOr, dNot, dDrop, dNext, dMethL, dSetIx, dAndV, dOrV, dNotV, dBlV, dIfE, dLst, dTup, dLstM, dCall, dChain, dAsg, dgName, dgTup, bindD, asT, dFor, diList, diRng1, diRng2, diEnumerate, diZip, diReversed, dLc, dLcM, dYes, wipeD, dAug, dSl, dSlT, dpN, dpS,
  oI, oI0, oB0, oAdd, oNeg, oEq, oNe, oIx, oIsN, oNotN, isNon, oShl, oApp, oPop, oPopAt, cLen, cInt, cAbs, cSum, cMax2, cMin2, cList, cIsi, tyD, asL, asF, asK, moL_lst, ModC, DivC,
  List.getElem?_cons_zero, List.getElem?_cons_succ, List.set_cons_zero, List.set_cons_succ, List.getElem?_nil, List.length_cons, List.length_nil, List.length_map, Option.map_some, Option.bind_some, Option.isSome_some, if_true, true_and, and_true, MM.push])
local macro_rules | `(tactic| walk_at "lim") => `(tactic| repeat (first | (refine ⟨by decide, ?_⟩) | (refine ⟨by (try simp only [List.length_map, List.length_dropLast, List.length_append, List.length_cons, List.length_nil, List.length_replicate, List.length_take, List.length_drop, List.length_range]); (show _ ≤ 16777216); omega, ?_⟩)))

set_option hygiene false in
local macro_rules | `(tactic| walk_at "stp") => `(tactic| (refine dSeq_k fun k1 h1 => ?_; walk_at "dx"))
set_option hygiene false in
local macro_rules | `(tactic| walk_at "nxt") => `(tactic| (subst h1; (try dsimp only); refine dSeq_k fun k1 h1 => ?_; walk_at "dx"))
set_option hygiene false in
local macro_rules | `(tactic| walk_at "lst") => `(tactic| (subst h1; (try dsimp only); walk_at "dx"))
set_option hygiene false in
local macro_rules | `(tactic| walk_at "nxt2") => `(tactic| (subst h2; (try dsimp only); refine dSeq_k fun k2 h2 => ?_; walk_at "dx"))
set_option hygiene false in
local macro_rules | `(tactic| walk_at "stp2") => `(tactic| (refine dSeq_k fun k2 h2 => ?_; walk_at "dx"))
set_option hygiene false in
local macro_rules | `(tactic| walk_at "lst2") => `(tactic| (subst h2; (try dsimp only); walk_at "dx"))
set_option hygiene false in
local macro_rules | `(tactic| walk_at "an") => `(tactic| (walk_at "dx"; (try simp only [dgTupG, dgsCons, dgsNil, dgFld, asT, dVar, List.length_cons, List.length_nil, List.getElem?_cons_zero, ob, obL, hk, moI_ins, Fl_Answerer.circuit, Fl_Answerer.tables, Fl_Answerer.bits, Fl_Answerer.p, Fl_Answerer.steps, Fl_Answerer.layer, Fl_Answerer.round, Fl_Answerer.wide, Fl_Answerer.gates, Fl_Answerer.near, Fl_Answerer.columns, Fl_Answerer.first, Fl_Answerer.second, Fl_Answerer.share, Fl_Answerer.below, Fl_Answerer.factors, Fl_Answerer.rest, Fl_Answerer.left,
  List.getElem?_set_self, List.set_set, List.length_set, look_put, String.reduceEq, reduceIte, exists_eq_left', Option.some.injEq, true_and, and_true])))
set_option hygiene false in
local macro_rules | `(tactic| walk_at "bl") => `(tactic| (walk_at "dx"; (try simp only [dgTupG, dgsCons, dgsNil, dgFld, asT, dVar, List.length_cons, List.length_nil, List.getElem?_cons_zero, ob, obL, obh, hk, moI_ins, Fl_Bluffer.honest, Fl_Bluffer.circuit, Fl_Bluffer.bits, Fl_Bluffer.p, Fl_Bluffer.claimed, Fl_Bluffer.choices, Fl_Bluffer.used, Fl_Bluffer.claim, Fl_Bluffer.layer, Fl_Bluffer.point, Fl_Bluffer.throws, Fl_Bluffer.sent, Fl_Bluffer.abits, Fl_Bluffer.ap,
  List.getElem?_set_self, List.set_set, List.length_set, look_put, String.reduceEq, reduceIte, exists_eq_left', Option.some.injEq, true_and, and_true])))

end Dl

namespace Dl
open PySem L2
local macro_rules | `(tactic| walk_at "dl") => `(tactic| try simp only [dSeq, dSet, dRaise_one, dRaise_two, dTryAs, dXf, dIsE, List.lookup_cons, List.lookup_nil, beq_self_eq_true, Bool.false_eq_true, if_false, dOp, dUn, dVar, dC, dCB, dCons, dNil, dRet, dRetN, dIf, dB, dAnd, dOr, dNot, dDrop, dNext, dMethL, dSetIx, dAndV, dOrV, dNotV, dBlV, dIfE, dLst, dTup, dLstM, dCall, dChain, dAsg, dgName, dgTup, bindD, asT, dFor, diList, diRng1, diRng2, diEnumerate, diZip, diReversed, dLc, dLcM, dYes, wipeD, dAug, dSl, dSlT, dpN, dpS,
  oI, oI0, oB0, oAdd, oNeg, oEq, oNe, oIx, oIsN, oNotN, isNon, oShl, oApp, oPop, oPopAt, cLen, cInt, cAbs, cSum, cMax2, cMin2, cList, cIsi, tyD, asL, asF, asK, moL_lst, ModC, DivC,
  List.getElem?_cons_zero, List.getElem?_cons_succ, List.set_cons_zero, List.set_cons_succ, List.getElem?_nil, List.length_cons, List.length_nil, List.length_map, Option.map_some, Option.bind_some, Option.isSome_some, if_true, true_and, and_true, MM.push])
local macro_rules | `(tactic| walk_at "dx") => `(tactic| try simp only [eq_self_iff_true, okE_int, okE_bl, okE_non, eqD_int, eqD_bl, kq_NoneType_int, kq_NoneType_bool, kq_NoneType_list, kq_NoneType_tuple, kq_NoneType_str, kq_bool_int, kq_bool_bool, kq_bool_list, kq_bool_tuple, kq_bool_str, kq_int_int, kq_int_bool, kq_int_list, kq_int_tuple, kq_int_str, kq_str_int, kq_str_bool, kq_str_list, kq_str_tuple, kq_str_str, kq_list_int, kq_list_bool, kq_list_list, kq_list_tuple, kq_list_str, kq_tuple_int, kq_tuple_bool, kq_tuple_list, kq_tuple_tuple, kq_tuple_str, oInL, oIsB, oNotB, oEqH, oNeH, oShr, oExt, cMaxL, cMinL, cAny, cAll, cTuple, cListM, dRevL, dFld, dSetF, dAugF, dMeth, dMake, moI_ins, app_len, set_app, List.contains_cons, List.contains_nil, Bool.true_or,  Bool.true_eq_false, decide_true, not_true_eq_false, not_false_eq_true, Bool.not_true, Bool.not_false, decide_eq_true_eq, Bool.not_eq_true', decide_eq_false_iff_not, dSeq, dSet, dRaise_one, dRaise_two, dTryAs, dXf, dIsE, List.lookup_cons, List.lookup_nil, beq_self_eq_true, Bool.false_eq_true, if_false, dOp, dUn, dVar, dC, dCB, dCons, dNil, dRet, dRetN, dIf, dB, dAnd, dOr, dNot, dDrop, dNext, dMethL, dSetIx, dAndV, dOrV, dNotV, dBlV, dIfE, dLst, dTup, dLstM, dCall, dChain, dAsg, dgName, dgTup, bindD, asT, dFor, diList, diRng1, diRng2, diEnumerate, diZip, diReversed, dLc, dLcM, dYes, wipeD, dAug, dSl, dSlT, dpN, dpS,
  oI, oI0, oB0, oAdd, oNeg, oEq, oNe, oIx, oIsN, oNotN, isNon, oShl, oApp, oPop, oPopAt, cLen, cInt, cAbs, cSum, cMax2, cMin2, cList, cIsi, tyD, asL, asF, asK, moL_lst, ModC, DivC,
  List.getElem?_cons_zero, List.getElem?_cons_succ, List.set_cons_zero, List.set_cons_succ, List.getElem?_nil, List.length_cons, List.length_nil, List.length_map, Option.map_some, Option.bind_some, Option.isSome_some, if_true, true_and, and_true, MM.push])
local macro_rules | `(tactic| walk_at "lim") => `(tactic| repeat (first | (refine ⟨by decide, ?_⟩) | (refine ⟨by (try simp only [List.length_map, List.length_dropLast, List.length_append, List.length_cons, List.length_nil, List.length_replicate, List.length_take, List.length_drop, List.length_range]); (show _ ≤ 16777216); omega, ?_⟩)))

set_option hygiene false in
local macro_rules | `(tactic| walk_at "stp") => `(tactic| (refine dSeq_k fun k1 h1 => ?_; walk_at "dx"))
set_option hygiene false in
local macro_rules | `(tactic| walk_at "nxt") => `(tactic| (subst h1; (try dsimp only); refine dSeq_k fun k1 h1 => ?_; walk_at "dx"))
set_option hygiene false in
local macro_rules | `(tactic| walk_at "lst") => `(tactic| (subst h1; (try dsimp only); walk_at "dx"))
set_option hygiene false in
local macro_rules | `(tactic| walk_at "nxt2") => `(tactic| (subst h2; (try dsimp only); refine dSeq_k fun k2 h2 => ?_; walk_at "dx"))
set_option hygiene false in
local macro_rules | `(tactic| walk_at "stp2") => `(tactic| (refine dSeq_k fun k2 h2 => ?_; walk_at "dx"))
set_option hygiene false in
local macro_rules | `(tactic| walk_at "lst2") => `(tactic| (subst h2; (try dsimp only); walk_at "dx"))
set_option hygiene false in
local macro_rules | `(tactic| walk_at "an") => `(tactic| (walk_at "dx"; (try simp only [dgTupG, dgsCons, dgsNil, dgFld, asT, dVar, List.length_cons, List.length_nil, List.getElem?_cons_zero, ob, obL, hk, moI_ins, Fl_Answerer.circuit, Fl_Answerer.tables, Fl_Answerer.bits, Fl_Answerer.p, Fl_Answerer.steps, Fl_Answerer.layer, Fl_Answerer.round, Fl_Answerer.wide, Fl_Answerer.gates, Fl_Answerer.near, Fl_Answerer.columns, Fl_Answerer.first, Fl_Answerer.second, Fl_Answerer.share, Fl_Answerer.below, Fl_Answerer.factors, Fl_Answerer.rest, Fl_Answerer.left,
  List.getElem?_set_self, List.set_set, List.length_set, look_put, String.reduceEq, reduceIte, exists_eq_left', Option.some.injEq, true_and, and_true])))
set_option hygiene false in
local macro_rules | `(tactic| walk_at "bl") => `(tactic| (walk_at "dx"; (try simp only [dgTupG, dgsCons, dgsNil, dgFld, asT, dVar, List.length_cons, List.length_nil, List.getElem?_cons_zero, ob, obL, obh, hk, moI_ins, Fl_Bluffer.honest, Fl_Bluffer.circuit, Fl_Bluffer.bits, Fl_Bluffer.p, Fl_Bluffer.claimed, Fl_Bluffer.choices, Fl_Bluffer.used, Fl_Bluffer.claim, Fl_Bluffer.layer, Fl_Bluffer.point, Fl_Bluffer.throws, Fl_Bluffer.sent, Fl_Bluffer.abits, Fl_Bluffer.ap,
  List.getElem?_set_self, List.set_set, List.length_set, look_put, String.reduceEq, reduceIte, exists_eq_left', Option.some.injEq, true_and, and_true])))

/-! ### the bluffer's line -/
end Dl

namespace Dl
open PySem L2
local macro_rules | `(tactic| walk_at "dl") => `(tactic| try simp only [dSeq, dSet, dRaise_one, dRaise_two, dTryAs, dXf, dIsE, List.lookup_cons, List.lookup_nil, beq_self_eq_true, Bool.false_eq_true, if_false, dOp, dUn, dVar, dC, dCB, dCons, dNil, dRet, dRetN, dIf, dB, dAnd, dOr, dNot, dDrop, dNext, dMethL, dSetIx, dAndV, dOrV, dNotV, dBlV, dIfE, dLst, dTup, dLstM, dCall, dChain, dAsg, dgName, dgTup, bindD, asT, dFor, diList, diRng1, diRng2, diEnumerate, diZip, diReversed, dLc, dLcM, dYes, wipeD, dAug, dSl, dSlT, dpN, dpS,
  oI, oI0, oB0, oAdd, oNeg, oEq, oNe, oIx, oIsN, oNotN, isNon, oShl, oApp, oPop, oPopAt, cLen, cInt, cAbs, cSum, cMax2, cMin2, cList, cIsi, tyD, asL, asF, asK, moL_lst, ModC, DivC,
  List.getElem?_cons_zero, List.getElem?_cons_succ, List.set_cons_zero, List.set_cons_succ, List.getElem?_nil, List.length_cons, List.length_nil, List.length_map, Option.map_some, Option.bind_some, Option.isSome_some, if_true, true_and, and_true, MM.push])
local macro_rules | `(tactic| walk_at "dx") => `(tactic| try simp only [eq_self_iff_true, okE_int, okE_bl, okE_non, eqD_int, eqD_bl, kq_NoneType_int, kq_NoneType_bool, kq_NoneType_list, kq_NoneType_tuple, kq_NoneType_str, kq_bool_int, kq_bool_bool, kq_bool_list, kq_bool_tuple, kq_bool_str, kq_int_int, kq_int_bool, kq_int_list, kq_int_tuple, kq_int_str, kq_str_int, kq_str_bool, kq_str_list, kq_str_tuple, kq_str_str, kq_list_int, kq_list_bool, kq_list_list, kq_list_tuple, kq_list_str, kq_tuple_int, kq_tuple_bool, kq_tuple_list, kq_tuple_tuple, kq_tuple_str, oInL, oIsB, oNotB, oEqH, oNeH, oShr, oExt, cMaxL, cMinL, cAny, cAll, cTuple, cListM, dRevL, dFld, dSetF, dAugF, dMeth, dMake, moI_ins, app_len, set_app, List.contains_cons, List.contains_nil, Bool.true_or,  Bool.true_eq_false, decide_true, not_true_eq_false, not_false_eq_true, Bool.not_true, Bool.not_false, decide_eq_true_eq, Bool.not_eq_true', decide_eq_false_iff_not, dSeq, dSet, dRaise_one, dRaise_two, dTryAs, dXf, dIsE, List.lookup_cons, List.lookup_nil, beq_self_eq_true, Bool.false_eq_true, if_false, dOp, dUn, dVar, dC, dCB, dCons, dNil, dRet, dRetN, dIf, dB, dAnd, dOr, dNot, dDrop, dNext, dMethL, dSetIx, dAndV, dOrV, dNotV, dBlV, dIfE, dLst, dTup, dLstM, dCall, dChain, dAsg, dgName, dgTup, bindD, asT, dFor, diList, diRng1, diRng2, diEnumerate, diZip, diReversed, dLc, dLcM, dYes, wipeD, dAug, dSl, dSlT, dpN, dpS,
  oI, oI0, oB0, oAdd, oNeg, oEq, oNe, oIx, oIsN, oNotN, isNon, oShl, oApp, oPop, oPopAt, cLen, cInt, cAbs, cSum, cMax2, cMin2, cList, cIsi, tyD, asL, asF, asK, moL_lst, ModC, DivC,
  List.getElem?_cons_zero, List.getElem?_cons_succ, List.set_cons_zero, List.set_cons_succ, List.getElem?_nil, List.length_cons, List.length_nil, List.length_map, Option.map_some, Option.bind_some, Option.isSome_some, if_true, true_and, and_true, MM.push])
local macro_rules | `(tactic| walk_at "lim") => `(tactic| repeat (first | (refine ⟨by decide, ?_⟩) | (refine ⟨by (try simp only [List.length_map, List.length_dropLast, List.length_append, List.length_cons, List.length_nil, List.length_replicate, List.length_take, List.length_drop, List.length_range]); (show _ ≤ 16777216); omega, ?_⟩)))

set_option hygiene false in
local macro_rules | `(tactic| walk_at "stp") => `(tactic| (refine dSeq_k fun k1 h1 => ?_; walk_at "dx"))
set_option hygiene false in
local macro_rules | `(tactic| walk_at "nxt") => `(tactic| (subst h1; (try dsimp only); refine dSeq_k fun k1 h1 => ?_; walk_at "dx"))
set_option hygiene false in
local macro_rules | `(tactic| walk_at "lst") => `(tactic| (subst h1; (try dsimp only); walk_at "dx"))
set_option hygiene false in
local macro_rules | `(tactic| walk_at "nxt2") => `(tactic| (subst h2; (try dsimp only); refine dSeq_k fun k2 h2 => ?_; walk_at "dx"))
set_option hygiene false in
local macro_rules | `(tactic| walk_at "stp2") => `(tactic| (refine dSeq_k fun k2 h2 => ?_; walk_at "dx"))
set_option hygiene false in
local macro_rules | `(tactic| walk_at "lst2") => `(tactic| (subst h2; (try dsimp only); walk_at "dx"))

/-! ### the laws' own value of a polynomial; values at a point -/
def C__law_at__2 : DC := fun ds m Φ _ => ∃ (vs : List Int) (t p : Int) (f : Int → Int) (n : Nat), ds = [.lst (vs.map D.int), .int t, .int p] ∧ PM p ∧ Prim p ∧ InP p vs ∧ vs.length = n + 1 ∧ ((n + 1 : Nat) : Int) ≤ p ∧ n ≤ 100 ∧ 0 ≤ t ∧ t < p ∧ Pol p n f ∧ (∀ k ≤ n, Cg p (gi vs (k : Nat)) (f (k : Nat))) ∧
  Φ (.int (f t % p)) m
def W__law_at__2 : DS := dSeq (dSet 3 (dC (.int 0))) (dSeq (dFor (diRng1 (dCons (dCB cLen (dCons (dVar 0) (dNil))) (dNil))) (dgName 4) (dSeq (dSet 5 (dOp oIx (dVar 0) (dVar 4))) (dSeq (dSet 6 (dC (.int 1))) (dSeq (dFor (diRng1 (dCons (dCB cLen (dCons (dVar 0) (dNil))) (dNil))) (dgName 7) (dIf (dB (dOp oNe (dVar 7) (dVar 4))) (dSeq (dSet 5 (dOp oMod (dCB cInt (dCons (dOp oMul (dVar 5) (dOp oSub (dVar 1) (dVar 7))) (dNil))) (dVar 2))) (dSet 6 (dOp oMod (dCB cInt (dCons (dOp oMul (dVar 6) (dOp oSub (dVar 4) (dVar 7))) (dNil))) (dVar 2)))) (dNext))) (dSeq (dFor (diRng1 (dCons (dOp oSub (dVar 2) (dC (.int 2))) (dNil))) (dgName 7) (dSet 5 (dOp oMod (dCB cInt (dCons (dOp oMul (dVar 5) (dVar 6)) (dNil))) (dVar 2)))) (dSet 3 (dOp oAdd (dVar 3) (dVar 5)))))))) (dRet (dOp oMod (dCB cInt (dCons (dVar 3) (dNil))) (dVar 2))))
theorem rd__law_at__2 : ∀ ds m Φ Ψ, ds.length = 3 → C__law_at__2 ds m Φ Ψ → W__law_at__2 { nx := fun _ m' => Φ .non m', rt := Φ } (fun _ => Ψ) (ds.map some ++ List.replicate (8 - ds.length) none) m := by
  intro ds m Φ Ψ _ h
  obtain ⟨vs, t, p, f, n, rfl, hp, P, hv, hl, hn, n100, t0, t1, hf, hfv, q⟩ := h
  have hp1 := hp.1
  have hp2 := hp.2
  change W__law_at__2 _ _ [some (.lst (vs.map D.int)), some (.int t), some (.int p), none, none, none, none, none] m
  unfold W__law_at__2
  walk_at "stp"
  walk_at "nxt"
  refine ⟨⟨by omega, by omega⟩, ?_⟩
  rw [rngD0, Int.toNat_natCast, hl]
  refine forW_nat (fun k ρ m' => ∃ (tot : Int) (v4 v5 v6 v7 : Option D), ρ = [some (.lst (vs.map D.int)), some (.int t), some (.int p), some (.int tot), v4, v5, v6, v7] ∧ m' = m ∧ Cg p tot (S k fun k => gi vs (k : Nat) * (above k t (n + 1) * (abM k (k : Nat) p (n + 1)) ^ (p - 2).toNat))) ?_ ?_ ⟨0, none, none, none, none, rfl, rfl, .refl⟩
  · rintro k kk hk hkk ρ m' ⟨tot, v4, v5, v6, v7, rfl, rfl, ct⟩
    clear h1
    have gk := hv.gN (i := k) (by omega)
    walk_at "stp"
    refine ⟨_, atI_gi (by omega) (by omega), ?_⟩
    walk_at "nxt"
    walk_at "nxt"
    refine ⟨⟨by omega, by omega⟩, ?_⟩
    rw [rngD0, Int.toNat_natCast, hl]
    refine forW_nat (fun j ρ m2 => ∃ (ab : Int) (v7 : Option D), ρ = [some (.lst (vs.map D.int)), some (.int t), some (.int p), some (.int tot), some (.int (k : Nat)), some (.int ab), some (.int (abM k (k : Nat) p j)), v7] ∧ m2 = m' ∧ (0 ≤ ab ∧ ab < p) ∧ Cg p ab (gi vs (k : Nat) * above k t j)) ?_ ?_ ⟨gi vs (k : Nat), v7, rfl, rfl, gk, .of_eq (Int.mul_one _).symm⟩
    · rintro j kj hj hkj ρ m' ⟨ab, v7, rfl, rfl, ha, ca⟩
      clear h1
      have be := abM_in (k := k) (t := (k : Nat)) hp1 j
      walk_at "dx"
      by_cases e : j = k
      · rw [if_neg (by omega)]
        rw [show abM k (k : Nat) p j = abM k (k : Nat) p (j + 1) from (if_pos e).symm]
        exact hkj _ _ ⟨ab, _, rfl, rfl, ha, by rw [show above k t (j + 1) = above k t j from if_pos e]; exact ca⟩
      · rw [if_pos (by omega)]
        refine ⟨mulL ha.1 (by omega), by omega, mulL be.1 (by omega), by omega, ?_⟩
        rw [show abM k (k : Nat) p j * ((k : Nat) - (j : Nat)) % p = abM k (k : Nat) p (j + 1) from (if_neg e).symm]
        refine hkj _ _ ⟨_, some (.int (j : Nat)), rfl, rfl, mod_in hp1, ?_⟩
        rw [show above k t (j + 1) = above k t j * (t - (j : Nat)) from if_neg e, ← Int.mul_assoc]
        exact Cg.mod.trans (ca.mul .refl)
    · rintro ρ m' ⟨ab, v7, rfl, rfl, ha, ca⟩
      walk_at "nxt"
      refine ⟨⟨by omega, by omega⟩, ?_⟩
      rw [rngD0]
      refine forW_nat (fun i ρ m2 => ∃ (ab : Int) (v7 : Option D), ρ = [some (.lst (vs.map D.int)), some (.int t), some (.int p), some (.int tot), some (.int (k : Nat)), some (.int ab), some (.int (abM k (k : Nat) p (n + 1))), v7] ∧ m2 = m' ∧ (0 ≤ ab ∧ ab < p) ∧ Cg p ab (gi vs (k : Nat) * above k t (n + 1) * (abM k (k : Nat) p (n + 1)) ^ i)) ?_ ?_ ⟨ab, v7, rfl, rfl, ha, ca.trans (.of_eq (by rw [Int.pow_zero, Int.mul_one]))⟩
      · rintro i ki hi hki ρ m' ⟨ab, v7, rfl, rfl, ha, ca⟩
        clear h1
        have be := abM_in (k := k) (t := (k : Nat)) hp1 (n + 1)
        walk_at "dx"
        exact ⟨mulL ha.1 (by omega), by omega, hki _ _ ⟨_, _, rfl, rfl, mod_in hp1, Cg.mod.trans ((ca.mul .refl).trans (.of_eq (by rw [Int.pow_succ, Int.mul_assoc])))⟩⟩
      · rintro ρ m' ⟨ab, v7, rfl, rfl, ha, ca⟩
        walk_at "lst"
        refine hkk _ _ ⟨_, _, _, _, _, rfl, rfl, ?_⟩
        refine ct.add (ca.trans (.of_eq ?_))
        rw [Int.mul_assoc]
  · rintro ρ m' ⟨tot, v4, v5, v6, v7, rfl, rfl, ct⟩
    walk_at "lst"
    have e : tot % p = f t % p := by
      have lg := lagrange P hn hf (fun k => (abM k (k : Nat) p (n + 1)) ^ (p - 2).toNat) (fun k hk => wtM_inv P hn (by omega)) t
      exact ct.trans ((S_cg _ fun k hk => Cg.mul (hfv k (by omega)) .refl).trans lg)
    rw [e]
    exact ⟨by omega, q⟩
/-- of any values -/
theorem at_val {p t : Int} {vs : List Int} {m : MM} {Φ : D → MM → Prop} {Ψ : XP} (hp : PM p) (P : Prim p) (hv : InP p vs) (h0 : 0 < vs.length) (hn : (vs.length : Int) ≤ p) (h100 : vs.length ≤ 100) (t0 : 0 ≤ t) (t1 : t < p) (q : Φ (.int (valV vs t p)) m) : C__law_at__2 [.lst (vs.map D.int), .int t, .int p] m Φ Ψ := by
  obtain ⟨cs, c1, c2⟩ := interp P hp.1 h0 hn hv
  obtain ⟨n, hl⟩ : ∃ n, vs.length = n + 1 := ⟨vs.length - 1, by omega⟩
  refine ⟨vs, t, p, pev cs, n, rfl, hp, P, hv, hl, by omega, by omega, t0, t1, Pol.pev cs (by omega), fun k hk => ?_, ?_⟩
  · rw [← c2, vals_at (by omega)]; exact Cg.mod
  · have z := valV_pev P (t := t) c1 h0 hn t0
    rw [c2] at z
    rw [← z]; exact q
theorem valAt_mle {T pt : List Int} {p : Int} (h : T.length = 2 ^ pt.length) : valAt T pt p = mle T pt % p := by
  have z := mle_app (p := p) pt [] T (by rw [h, List.length_nil, Nat.add_zero])
  rw [List.append_nil, mle_nil] at z
  exact z.symm
end Dl

namespace Dl
open PySem L2
local macro_rules | `(tactic| walk_at "dl") => `(tactic| try simp only [dSeq, dSet, dRaise_one, dRaise_two, dTryAs, dXf, dIsE, List.lookup_cons, List.lookup_nil, beq_self_eq_true, Bool.false_eq_true, if_false, dOp, dUn, dVar, dC, dCB, dCons, dNil, dRet, dRetN, dIf, dB, dAnd, dOr, dNot, dDrop, dNext, dMethL, dSetIx, dAndV, dOrV, dNotV, dBlV, dIfE, dLst, dTup, dLstM, dCall, dChain, dAsg, dgName, dgTup, bindD, asT, dFor, diList, diRng1, diRng2, diEnumerate, diZip, diReversed, dLc, dLcM, dYes, wipeD, dAug, dSl, dSlT, dpN, dpS,
  oI, oI0, oB0, oAdd, oNeg, oEq, oNe, oIx, oIsN, oNotN, isNon, oShl, oApp, oPop, oPopAt, cLen, cInt, cAbs, cSum, cMax2, cMin2, cList, cIsi, tyD, asL, asF, asK, moL_lst, ModC, DivC,
  List.getElem?_cons_zero, List.getElem?_cons_succ, List.set_cons_zero, List.set_cons_succ, List.getElem?_nil, List.length_cons, List.length_nil, List.length_map, Option.map_some, Option.bind_some, Option.isSome_some, if_true, true_and, and_true, MM.push])
local macro_rules | `(tactic| walk_at "dx") => `(tactic| try simp only [eq_self_iff_true, okE_int, okE_bl, okE_non, eqD_int, eqD_bl, kq_NoneType_int, kq_NoneType_bool, kq_NoneType_list, kq_NoneType_tuple, kq_NoneType_str, kq_bool_int, kq_bool_bool, kq_bool_list, kq_bool_tuple, kq_bool_str, kq_int_int, kq_int_bool, kq_int_list, kq_int_tuple, kq_int_str, kq_str_int, kq_str_bool, kq_str_list, kq_str_tuple, kq_str_str, kq_list_int, kq_list_bool, kq_list_list, kq_list_tuple, kq_list_str, kq_tuple_int, kq_tuple_bool, kq_tuple_list, kq_tuple_tuple, kq_tuple_str, oInL, oIsB, oNotB, oEqH, oNeH, oShr, oExt, cMaxL, cMinL, cAny, cAll, cTuple, cListM, dRevL, dFld, dSetF, dAugF, dMeth, dMake, moI_ins, app_len, set_app, List.contains_cons, List.contains_nil, Bool.true_or,  Bool.true_eq_false, decide_true, not_true_eq_false, not_false_eq_true, Bool.not_true, Bool.not_false, decide_eq_true_eq, Bool.not_eq_true', decide_eq_false_iff_not, dSeq, dSet, dRaise_one, dRaise_two, dTryAs, dXf, dIsE, List.lookup_cons, List.lookup_nil, beq_self_eq_true, Bool.false_eq_true, if_false, dOp, dUn, dVar, dC, dCB, dCons, dNil, dRet, dRetN, dIf, dB, dAnd, dOr, dNot, dDrop, dNext, dMethL, dSetIx, dAndV, dOrV, dNotV, dBlV, dIfE, dLst, dTup, dLstM, dCall, dChain, dAsg, dgName, dgTup, bindD, asT, dFor, diList, diRng1, diRng2, diEnumerate, diZip, diReversed, dLc, dLcM, dYes, wipeD, dAug, dSl, dSlT, dpN, dpS,
  oI, oI0, oB0, oAdd, oNeg, oEq, oNe, oIx, oIsN, oNotN, isNon, oShl, oApp, oPop, oPopAt, cLen, cInt, cAbs, cSum, cMax2, cMin2, cList, cIsi, tyD, asL, asF, asK, moL_lst, ModC, DivC,
  List.getElem?_cons_zero, List.getElem?_cons_succ, List.set_cons_zero, List.set_cons_succ, List.getElem?_nil, List.length_cons, List.length_nil, List.length_map, Option.map_some, Option.bind_some, Option.isSome_some, if_true, true_and, and_true, MM.push])
local macro_rules | `(tactic| walk_at "lim") => `(tactic| repeat (first | (refine ⟨by decide, ?_⟩) | (refine ⟨by (try simp only [List.length_map, List.length_dropLast, List.length_append, List.length_cons, List.length_nil, List.length_replicate, List.length_take, List.length_drop, List.length_range]); (show _ ≤ 16777216); omega, ?_⟩)))

set_option hygiene false in
local macro_rules | `(tactic| walk_at "stp") => `(tactic| (refine dSeq_k fun k1 h1 => ?_; walk_at "dx"))
set_option hygiene false in
local macro_rules | `(tactic| walk_at "nxt") => `(tactic| (subst h1; (try dsimp only); refine dSeq_k fun k1 h1 => ?_; walk_at "dx"))
set_option hygiene false in
local macro_rules | `(tactic| walk_at "lst") => `(tactic| (subst h1; (try dsimp only); walk_at "dx"))
set_option hygiene false in
local macro_rules | `(tactic| walk_at "nxt2") => `(tactic| (subst h2; (try dsimp only); refine dSeq_k fun k2 h2 => ?_; walk_at "dx"))
set_option hygiene false in
local macro_rules | `(tactic| walk_at "stp2") => `(tactic| (refine dSeq_k fun k2 h2 => ?_; walk_at "dx"))
set_option hygiene false in
local macro_rules | `(tactic| walk_at "lst2") => `(tactic| (subst h2; (try dsimp only); walk_at "dx"))

/-! ### differences: a polynomial of n values goes on by sums alone -/
theorem gi_mapr {F : Nat → Int} {n j : Nat} (h : j < n) : gi ((List.range n).map F) (j : Nat) = F j := by
  rw [gi_nat, List.getD_eq_getElem?_getD, List.getElem?_map, List.getElem?_range h]; rfl
/-! ### the laws with larger numbers: draws -/
/-! ### all values of a polynomial -/
end Dl

namespace Dl
open PySem L2
/-! ### objects of the class Bluffer or of a class under it -/
def blC (cn : String) : Prop := cn = "Bluffer" ∨ cn = "Guesser"
class Fl_B1 (fl : String → List String) (cn : String) : Prop where
  honest : (fl "honest").contains cn = true
  circuit : (fl "circuit").contains cn = true
  bits : (fl "bits").contains cn = true
  p : (fl "p").contains cn = true
  claimed : (fl "claimed").contains cn = true
  choices : (fl "choices").contains cn = true
  used : (fl "used").contains cn = true
  claim : (fl "claim").contains cn = true
  layer : (fl "layer").contains cn = true
  point : (fl "point").contains cn = true
  throws : (fl "throws").contains cn = true
  sent : (fl "sent").contains cn = true
  abits : (fl "bits").contains "Answerer" = true
  ap : (fl "p").contains "Answerer" = true
class Fl_BG (fl : String → List String) : Prop where
  honest1 : (fl "honest").contains "Bluffer" = true
  honest2 : (fl "honest").contains "Guesser" = true
  circuit1 : (fl "circuit").contains "Bluffer" = true
  circuit2 : (fl "circuit").contains "Guesser" = true
  bits1 : (fl "bits").contains "Bluffer" = true
  bits2 : (fl "bits").contains "Guesser" = true
  p1 : (fl "p").contains "Bluffer" = true
  p2 : (fl "p").contains "Guesser" = true
  claimed1 : (fl "claimed").contains "Bluffer" = true
  claimed2 : (fl "claimed").contains "Guesser" = true
  choices1 : (fl "choices").contains "Bluffer" = true
  choices2 : (fl "choices").contains "Guesser" = true
  used1 : (fl "used").contains "Bluffer" = true
  used2 : (fl "used").contains "Guesser" = true
  claim1 : (fl "claim").contains "Bluffer" = true
  claim2 : (fl "claim").contains "Guesser" = true
  layer1 : (fl "layer").contains "Bluffer" = true
  layer2 : (fl "layer").contains "Guesser" = true
  point1 : (fl "point").contains "Bluffer" = true
  point2 : (fl "point").contains "Guesser" = true
  throws1 : (fl "throws").contains "Bluffer" = true
  throws2 : (fl "throws").contains "Guesser" = true
  sent1 : (fl "sent").contains "Bluffer" = true
  sent2 : (fl "sent").contains "Guesser" = true
  abits : (fl "bits").contains "Answerer" = true
  ap : (fl "p").contains "Answerer" = true
theorem Fl_BG.of {fl : String → List String} {cn : String} (F : Fl_BG fl) (h : blC cn) : Fl_B1 fl cn := by
  rcases h with rfl | rfl
  · exact ⟨F.honest1, F.circuit1, F.bits1, F.p1, F.claimed1, F.choices1, F.used1, F.claim1, F.layer1, F.point1, F.throws1, F.sent1, F.abits, F.ap⟩
  · exact ⟨F.honest2, F.circuit2, F.bits2, F.p2, F.claimed2, F.choices2, F.used2, F.claim2, F.layer2, F.point2, F.throws2, F.sent2, F.abits, F.ap⟩
local macro_rules | `(tactic| walk_at "dl") => `(tactic| try simp only [dSeq, dSet, dRaise_one, dRaise_two, dTryAs, dXf, dIsE, List.lookup_cons, List.lookup_nil, beq_self_eq_true, Bool.false_eq_true, if_false, dOp, dUn, dVar, dC, dCB, dCons, dNil, dRet, dRetN, dIf, dB, dAnd, dOr, dNot, dDrop, dNext, dMethL, dSetIx, dAndV, dOrV, dNotV, dBlV, dIfE, dLst, dTup, dLstM, dCall, dChain, dAsg, dgName, dgTup, bindD, asT, dFor, diList, diRng1, diRng2, diEnumerate, diZip, diReversed, dLc, dLcM, dYes, wipeD, dAug, dSl, dSlT, dpN, dpS,
  oI, oI0, oB0, oAdd, oNeg, oEq, oNe, oIx, oIsN, oNotN, isNon, oShl, oApp, oPop, oPopAt, cLen, cInt, cAbs, cSum, cMax2, cMin2, cList, cIsi, tyD, asL, asF, asK, moL_lst, ModC, DivC,
  List.getElem?_cons_zero, List.getElem?_cons_succ, List.set_cons_zero, List.set_cons_succ, List.getElem?_nil, List.length_cons, List.length_nil, List.length_map, Option.map_some, Option.bind_some, Option.isSome_some, if_true, true_and, and_true, MM.push])
local macro_rules | `(tactic| walk_at "dx") => `(tactic| try simp only [eq_self_iff_true, okE_int, okE_bl, okE_non, eqD_int, eqD_bl, kq_NoneType_int, kq_NoneType_bool, kq_NoneType_list, kq_NoneType_tuple, kq_NoneType_str, kq_bool_int, kq_bool_bool, kq_bool_list, kq_bool_tuple, kq_bool_str, kq_int_int, kq_int_bool, kq_int_list, kq_int_tuple, kq_int_str, kq_str_int, kq_str_bool, kq_str_list, kq_str_tuple, kq_str_str, kq_list_int, kq_list_bool, kq_list_list, kq_list_tuple, kq_list_str, kq_tuple_int, kq_tuple_bool, kq_tuple_list, kq_tuple_tuple, kq_tuple_str, oInL, oIsB, oNotB, oEqH, oNeH, oShr, oExt, cMaxL, cMinL, cAny, cAll, cTuple, cListM, dRevL, dFld, dSetF, dAugF, dMeth, dMake, moI_ins, app_len, set_app, List.contains_cons, List.contains_nil, Bool.true_or,  Bool.true_eq_false, decide_true, not_true_eq_false, not_false_eq_true, Bool.not_true, Bool.not_false, decide_eq_true_eq, Bool.not_eq_true', decide_eq_false_iff_not, dSeq, dSet, dRaise_one, dRaise_two, dTryAs, dXf, dIsE, List.lookup_cons, List.lookup_nil, beq_self_eq_true, Bool.false_eq_true, if_false, dOp, dUn, dVar, dC, dCB, dCons, dNil, dRet, dRetN, dIf, dB, dAnd, dOr, dNot, dDrop, dNext, dMethL, dSetIx, dAndV, dOrV, dNotV, dBlV, dIfE, dLst, dTup, dLstM, dCall, dChain, dAsg, dgName, dgTup, bindD, asT, dFor, diList, diRng1, diRng2, diEnumerate, diZip, diReversed, dLc, dLcM, dYes, wipeD, dAug, dSl, dSlT, dpN, dpS,
  oI, oI0, oB0, oAdd, oNeg, oEq, oNe, oIx, oIsN, oNotN, isNon, oShl, oApp, oPop, oPopAt, cLen, cInt, cAbs, cSum, cMax2, cMin2, cList, cIsi, tyD, asL, asF, asK, moL_lst, ModC, DivC,
  List.getElem?_cons_zero, List.getElem?_cons_succ, List.set_cons_zero, List.set_cons_succ, List.getElem?_nil, List.length_cons, List.length_nil, List.length_map, Option.map_some, Option.bind_some, Option.isSome_some, if_true, true_and, and_true, MM.push])
local macro_rules | `(tactic| walk_at "lim") => `(tactic| repeat (first | (refine ⟨by decide, ?_⟩) | (refine ⟨by (try simp only [List.length_map, List.length_dropLast, List.length_append, List.length_cons, List.length_nil, List.length_replicate, List.length_take, List.length_drop, List.length_range]); (show _ ≤ 16777216); omega, ?_⟩)))

set_option hygiene false in
local macro_rules | `(tactic| walk_at "stp") => `(tactic| (refine dSeq_k fun k1 h1 => ?_; walk_at "dx"))
set_option hygiene false in
local macro_rules | `(tactic| walk_at "nxt") => `(tactic| (subst h1; (try dsimp only); refine dSeq_k fun k1 h1 => ?_; walk_at "dx"))
set_option hygiene false in
local macro_rules | `(tactic| walk_at "lst") => `(tactic| (subst h1; (try dsimp only); walk_at "dx"))
set_option hygiene false in
local macro_rules | `(tactic| walk_at "nxt2") => `(tactic| (subst h2; (try dsimp only); refine dSeq_k fun k2 h2 => ?_; walk_at "dx"))
set_option hygiene false in
local macro_rules | `(tactic| walk_at "stp2") => `(tactic| (refine dSeq_k fun k2 h2 => ?_; walk_at "dx"))
set_option hygiene false in
local macro_rules | `(tactic| walk_at "lst2") => `(tactic| (subst h2; (try dsimp only); walk_at "dx"))
set_option hygiene false in
local macro_rules | `(tactic| walk_at "an") => `(tactic| (walk_at "dx"; (try simp only [dgTupG, dgsCons, dgsNil, dgFld, asT, dVar, List.length_cons, List.length_nil, List.getElem?_cons_zero, ob, obL, hk, moI_ins, Fl_Answerer.circuit, Fl_Answerer.tables, Fl_Answerer.bits, Fl_Answerer.p, Fl_Answerer.steps, Fl_Answerer.layer, Fl_Answerer.round, Fl_Answerer.wide, Fl_Answerer.gates, Fl_Answerer.near, Fl_Answerer.columns, Fl_Answerer.first, Fl_Answerer.second, Fl_Answerer.share, Fl_Answerer.below, Fl_Answerer.factors, Fl_Answerer.rest, Fl_Answerer.left,
  List.getElem?_set_self, List.set_set, List.length_set, look_put, String.reduceEq, reduceIte, exists_eq_left', Option.some.injEq, true_and, and_true])))
set_option hygiene false in
local macro_rules | `(tactic| walk_at "bl") => `(tactic| (walk_at "dx"; (try simp only [dgTupG, dgsCons, dgsNil, dgFld, asT, dVar, List.length_cons, List.length_nil, List.getElem?_cons_zero, ob, obL, obh, hk, moI_ins, Fl_B1.honest, Fl_B1.circuit, Fl_B1.bits, Fl_B1.p, Fl_B1.claimed, Fl_B1.choices, Fl_B1.used, Fl_B1.claim, Fl_B1.layer, Fl_B1.point, Fl_B1.throws, Fl_B1.sent, Fl_B1.abits, Fl_B1.ap,
  List.getElem?_set_self, List.set_set, List.length_set, look_put, String.reduceEq, reduceIte, exists_eq_left', Option.some.injEq, true_and, and_true])))

def C_Bluffer_choice__g : DC := fun ds m Φ _ => ∃ (cn : String) (_ : blC cn) (k h : Nat) (fs : List (String × D)) (s : BS), ds = [.hnd k] ∧ m.M[k]? = some (.ins cn fs) ∧ BF fs h s ∧ PM s.s.c.p ∧
  Φ (.int (chF s.ch s.s.c.p s.used)) ⟨m.M.set k (.ins cn (putD "used" (.int (s.used + 1 : Nat)) fs)), m.s⟩
def W_Bluffer_choice__g (fl : String → List String) : DS := dSeq (dAugF (fl "used") "used" (fun i j => i + j) (dC (.int 1)) (dVar 0)) (dSeq (dIf (dB (dOp oLe (dFld (fl "used") "used" (dVar 0)) (dCB cLen (dCons (dFld (fl "choices") "choices" (dVar 0)) (dNil))))) (dRet (dOp oMod (dOp oIx (dFld (fl "choices") "choices" (dVar 0)) (dOp oSub (dFld (fl "used") "used" (dVar 0)) (dC (.int 1)))) (dFld (fl "p") "p" (dVar 0)))) (dNext)) (dRet (dC (.int 0))))
theorem rd_Bluffer_choice__g {fl : String → List String} (F : Fl_BG fl) : ∀ ds m Φ Ψ, ds.length = 1 → C_Bluffer_choice__g ds m Φ Ψ → W_Bluffer_choice__g fl { nx := fun _ m' => Φ .non m', rt := Φ } (fun _ => Ψ) (ds.map some ++ List.replicate (1 - ds.length) none) m := by
  intro ds m Φ Ψ _ h
  obtain ⟨cn, hcn, k, h, fs, s, rfl, ob, b, hp, q⟩ := h
  have F := F.of hcn
  have hk := getLt ob
  have obL := obApp ob
  have obh := ob
  have hp1 := hp.1
  change W_Bluffer_choice__g fl _ _ [some (.hnd k)] m
  unfold W_Bluffer_choice__g
  walk_at "stp"
  walk_at "bl"
  refine ⟨_, b.used, ?_⟩
  walk_at "bl"
  have b2 := b.usd (s.used + 1)
  refine ⟨b.k.lt, ?_⟩
  rw [show ((s.used : Nat) : Int) + 1 = ((s.used + 1 : Nat) : Int) by omega]
  generalize putD "used" (.int (s.used + 1 : Nat)) fs = fs2 at b2 q ⊢
  walk_at "nxt"
  walk_at "bl"
  refine ⟨_, b2.used, _, b2.choices, ?_⟩
  walk_at "bl"
  by_cases e : s.used < s.ch.length
  · rw [if_pos (by omega)]
    refine ⟨_, b2.choices, _, b2.used, ?_⟩
    walk_at "dx"
    rw [show ((s.used + 1 : Nat) : Int) - 1 = ((s.used : Nat) : Int) by omega]
    refine ⟨_, atI_gi (by omega) (by omega), ?_⟩
    walk_at "bl"
    refine ⟨_, b2.p, ?_⟩
    walk_at "dx"
    have e1 : chF s.ch s.s.c.p s.used = gi s.ch (s.used : Nat) % s.s.c.p := if_pos e
    rw [e1] at q
    exact ⟨by omega, q⟩
  · rw [if_neg (by omega)]
    walk_at "lst"
    have e1 : chF s.ch s.s.c.p s.used = 0 := if_neg e
    rw [e1] at q
    exact q
def C_Bluffer_outputs__g : DC := fun ds m Φ _ => ∃ (cn : String) (_ : blC cn) (k h : Nat) (fs : List (String × D)) (s : BS), ds = [.hnd k] ∧ m.M[k]? = some (.ins cn fs) ∧ BF fs h s ∧ Φ (.lst (s.cl.map D.int)) m
def W_Bluffer_outputs__g (fl : String → List String) : DS := dRet (dCB cList (dCons (dFld (fl "claimed") "claimed" (dVar 0)) (dNil)))
theorem rd_Bluffer_outputs__g {fl : String → List String} (F : Fl_BG fl) : ∀ ds m Φ Ψ, ds.length = 1 → C_Bluffer_outputs__g ds m Φ Ψ → W_Bluffer_outputs__g fl { nx := fun _ m' => Φ .non m', rt := Φ } (fun _ => Ψ) (ds.map some ++ List.replicate (1 - ds.length) none) m := by
  intro ds m Φ Ψ _ h
  obtain ⟨cn, hcn, k, h, fs, s, rfl, ob, b, q⟩ := h
  have F := F.of hcn
  have hk := getLt ob
  have obL := obApp ob
  have obh := ob
  change W_Bluffer_outputs__g fl _ _ [some (.hnd k)] m
  unfold W_Bluffer_outputs__g
  walk_at "bl"
  refine ⟨_, b.claimed, ?_⟩
  walk_at "dx"
  exact q
def C_Bluffer_begin__g : DC := fun ds m Φ _ => ∃ (cn : String) (_ : blC cn) (k h : Nat) (fs fa : List (String × D)) (s : BS) (l most wide : Nat) (g : List Int), ds = [.hnd k, .int (l : Nat), .lst (g.map D.int)] ∧ m.M[k]? = some (.ins cn fs) ∧ m.M[h]? = some (.ins "Answerer" fa) ∧ BF fs h s ∧ A0 fa s.s ∧ B0 s.s most wide ∧ l < s.s.c.ls.length ∧ InP s.s.c.p g ∧ (g.length : Int) = s.s.b + gi s.s.c.ws (l : Nat) ∧
  (l = 0 → InP s.s.c.p s.cl ∧ s.cl.length = 2 ^ g.length) ∧ ∀ fs' fa', BF1 fs' h (bBegin s l g) → AnsOK fa' (beginF s.s l g) → Φ .non ⟨(m.M.set k (.ins cn fs')).set h (.ins "Answerer" fa'), m.s⟩
def C_Bluffer_throw__g : DC := fun ds m Φ _ => ∃ (cn : String) (_ : blC cn) (k h : Nat) (fs fa : List (String × D)) (s : BS) (z : Int), ds = [.hnd k, .int z] ∧ m.M[k]? = some (.ins cn fs) ∧ m.M[h]? = some (.ins "Answerer" fa) ∧ BF1 fs h s ∧ fs.lookup "sent" = some (.lst (s.sent.map D.int)) ∧ AnsOK fa s.s ∧ Prim s.s.c.p ∧ InP s.s.c.p s.sent ∧ s.sent.length ≤ 1000 ∧ (s.sent.length : Int) ≤ s.s.c.p ∧ s.throws.length ≤ 1000 ∧ 0 ≤ z ∧ z < s.s.c.p ∧
  ∀ fs' fa', BF1 fs' h (bThrow s z) → AnsOK fa' (throwF s.s z) → Φ .non ⟨(m.M.set k (.ins cn fs')).set h (.ins "Answerer" fa'), m.s⟩
def W_Bluffer_begin__g (fl : String → List String) : DS := dSeq (dIf (dB (dOp oEq (dVar 1) (dC (.int 0)))) (dSetF (fl "claim") "claim" (dCall 3 C_value_at (dCons (dFld (fl "claimed") "claimed" (dVar 0)) (dCons (dVar 2) (dCons (dFld (fl "p") "p" (dVar 0)) (dNil))))) (dVar 0)) (dNext)) (dSeq (dSetF (fl "layer") "layer" (dVar 1) (dVar 0)) (dSeq (dSetF (fl "point") "point" (dCB cList (dCons (dVar 2) (dNil))) (dVar 0)) (dSeq (dSetF (fl "throws") "throws" (dLst (dNil)) (dVar 0)) (dDrop (dMeth [("Answerer", C_Answerer_begin)] "begin" 2 (dFld (fl "honest") "honest" (dVar 0)) (dCons (dVar 1) (dCons (dVar 2) (dNil))))))))
theorem rd_Bluffer_begin__g {fl : String → List String} (F : Fl_BG fl) : ∀ ds m Φ Ψ, ds.length = 3 → C_Bluffer_begin__g ds m Φ Ψ → W_Bluffer_begin__g fl { nx := fun _ m' => Φ .non m', rt := Φ } (fun _ => Ψ) (ds.map some ++ List.replicate (3 - ds.length) none) m := by
  intro ds m Φ Ψ _ h
  obtain ⟨cn, hcn, k, h, fs, fa, s, l, most, wide, g, rfl, ob, obh, b, a0, b0, hl, hg, gl, h0, q⟩ := h
  have F := F.of hcn
  have hk := getLt ob
  have hh := getLt obh
  have obL := obApp ob
  have hkh := ne_of ob obh (by rcases hcn with rfl | rfl <;> decide)
  have obh0 := obh
  have obh : ∀ X, (m.M.set k X)[h]? = some (.ins "Answerer" fa) := fun X => by rw [List.getElem?_set_ne hkh]; exact obh0
  change W_Bluffer_begin__g fl _ _ [some (.hnd k), some (.int (l : Nat)), some (.lst (g.map D.int))] m
  unfold W_Bluffer_begin__g
  refine dSeq_k fun k1 h1 => ?_
  have go : ∀ fs2, BF fs2 h { s with claim := if l = 0 then valAt s.cl g s.s.c.p else s.claim } → k1 [some (.hnd k), some (.int (l : Nat)), some (.lst (g.map D.int))] ⟨m.M.set k (.ins cn fs2), m.s⟩ := by
    intro fs2 b2
    walk_at "nxt"
    walk_at "bl"
    refine ⟨b2.k.lt, ?_⟩
    have b3 := b2.putE (f := "layer") (v := .int (l : Nat)) (by decide) rfl
    walk_at "nxt"
    walk_at "bl"
    refine ⟨b3.k.lt, ?_⟩
    have b4 := b3.putE (f := "point") (v := .lst (g.map D.int)) (by decide) (plD_ints g)
    walk_at "nxt"
    walk_at "bl"
    refine ⟨by decide, b4.k.lt, ?_⟩
    have b5 := b4.putE (f := "throws") (v := .lst []) (by decide) rfl
    walk_at "lst"
    walk_at "bl"
    refine ⟨_, b2.honest, ?_⟩
    walk_at "bl"
    refine ⟨notkey a0.k (by decide), h, fa, s.s, l, most, wide, g, rfl, obh _, a0, b0, hl, hg, gl, fun fa' ok => ?_⟩
    refine q _ fa' ⟨?_, ?_, ?_, ?_⟩ ok
    · have fx := fix_begin s.s l g
      exact b5.same fx.c fx.b rfl
    · exact (lk_ne (by decide)).trans ((lk_ne (by decide)).trans lk_eq)
    · exact (lk_ne (by decide)).trans lk_eq
    · exact lk_eq
  walk_at "bl"
  by_cases e : l = 0
  · rw [if_pos (by omega)]
    refine ⟨_, b.claimed, _, b.p, s.cl, g, s.s.c.p, rfl, b0.c.pm, (h0 e).1, (h0 e).2, ?_, ?_⟩
    · have hc := b0.c
      have hwl := hc.wl
      have w0 := hc.w0 _ (gi_mem (show l < s.s.c.ws.length by omega))
      have := b0.b3
      have := b0.w3
      omega
    walk_at "bl"
    refine ⟨b.k.lt, go _ ?_⟩
    rw [if_pos e]
    exact b.claimd _
  · rw [if_neg (by omega)]
    have z := go fs (by rw [if_neg e]; exact b.same rfl rfl rfl)
    rw [set_same ob] at z
    exact z
def W_Bluffer_throw__g (fl : String → List String) : DS := dSeq (dSetF (fl "claim") "claim" (dCall 3 C_value (dCons (dFld (fl "sent") "sent" (dVar 0)) (dCons (dVar 1) (dCons (dFld (fl "p") "p" (dVar 0)) (dNil))))) (dVar 0)) (dSeq (dSetF (fl "throws") "throws" (dOp oAdd (dFld (fl "throws") "throws" (dVar 0)) (dLst (dCons (dVar 1) (dNil)))) (dVar 0)) (dDrop (dMeth [("Answerer", C_Answerer_throw)] "throw" 1 (dFld (fl "honest") "honest" (dVar 0)) (dCons (dVar 1) (dNil)))))
theorem rd_Bluffer_throw__g {fl : String → List String} (F : Fl_BG fl) : ∀ ds m Φ Ψ, ds.length = 2 → C_Bluffer_throw__g ds m Φ Ψ → W_Bluffer_throw__g fl { nx := fun _ m' => Φ .non m', rt := Φ } (fun _ => Ψ) (ds.map some ++ List.replicate (2 - ds.length) none) m := by
  intro ds m Φ Ψ _ h
  obtain ⟨cn, hcn, k, h, fs, fa, s, z, rfl, ob, obh, b, hsent, ok, P, sin, s1000, sp, t1000, z0, z1, q⟩ := h
  have F := F.of hcn
  have hk := getLt ob
  have hh := getLt obh
  have obL := obApp ob
  have hkh := ne_of ob obh (by rcases hcn with rfl | rfl <;> decide)
  have obh0 := obh
  have obh : ∀ X, (m.M.set k X)[h]? = some (.ins "Answerer" fa) := fun X => by rw [List.getElem?_set_ne hkh]; exact obh0
  change W_Bluffer_throw__g fl _ _ [some (.hnd k), some (.int z)] m
  unfold W_Bluffer_throw__g
  walk_at "stp"
  walk_at "bl"
  refine ⟨_, hsent, _, b.p, s.sent, z, s.s.c.p, rfl, ok.v1.pm, P, sin, s1000, sp, z0, ?_⟩
  walk_at "bl"
  refine ⟨b.k.lt, ?_⟩
  have b2 := b.toBF.claimd (valV s.sent z s.s.c.p)
  have ht : (putD "claim" (.int (valV s.sent z s.s.c.p)) fs).lookup "throws" = some (.lst (s.throws.map D.int)) := (lk_ne (by decide)).trans b.throws
  have hl : (putD "claim" (.int (valV s.sent z s.s.c.p)) fs).lookup "layer" = some (.int (s.layer : Nat)) := (lk_ne (by decide)).trans b.layer
  have hpt : (putD "claim" (.int (valV s.sent z s.s.c.p)) fs).lookup "point" = some (.lst (s.point.map D.int)) := (lk_ne (by decide)).trans b.point
  generalize putD "claim" (.int (valV s.sent z s.s.c.p)) fs = fs2 at *
  walk_at "nxt"
  walk_at "bl"
  refine ⟨_, ht, ?_⟩
  walk_at "bl"
  refine ⟨by decide, by show s.throws.length + (0 + 1) ≤ 16777216; omega, b2.k.lt, ?_⟩
  rw [show s.throws.map D.int ++ [D.int z] = (s.throws ++ [z]).map D.int by rw [List.map_append]; rfl]
  have b3 := b2.putE (f := "throws") (v := .lst ((s.throws ++ [z]).map D.int)) (by decide) (plD_ints _)
  walk_at "lst"
  walk_at "bl"
  refine ⟨_, b2.honest, ?_⟩
  walk_at "bl"
  refine ⟨notkey ok.a0.k (by decide), h, fa, s.s, z, rfl, obh _, ok, z0, z1, fun fa' ok2 => ?_⟩
  refine q _ fa' ⟨?_, ?_, ?_, ?_⟩ ok2
  · have fx := (throw_r s.s z).2.2
    exact b3.same fx.c fx.b rfl
  · exact (lk_ne (by decide)).trans hl
  · exact (lk_ne (by decide)).trans hpt
  · exact lk_eq
def C_Bluffer_init__g : DC := fun ds m Φ _ => ∃ (cn : String) (_ : blC cn) (k : Nat) (c : Cir) (most wide b : Nat) (R : List (List Int)) (cl ch : List Int), ds = [.hnd k, cD c, .lst (R.map intL), .lst (cl.map D.int), .lst (ch.map D.int)] ∧ m.M[k]? = some (.ins cn []) ∧ CirOK c most wide ∧ most ≤ 4 ∧ wide ≤ 3 ∧ b ≤ 3 ∧ R.length = 2 ^ b ∧ (∀ r ∈ R, rowsOK c.p (colsC c c.ls.length) r) ∧
  ∀ fs' fa', BF fs' m.M.length ⟨s0 c R b, cl, ch, 0, 0, 0, [], [], []⟩ → A0 fa' (s0 c R b) → Φ .non ⟨m.M.set k (.ins cn fs') ++ [.ins "Answerer" fa'], m.s⟩
def W_Bluffer_init__g (fl : String → List String) : DS := dSeq (dSetF (fl "honest") "honest" (dMake 2 "Answerer" C_Answerer_init (dCons (dVar 1) (dCons (dVar 2) (dNil)))) (dVar 0)) (dSeq (dSetF (fl "circuit") "circuit" (dVar 1) (dVar 0)) (dSeq (dSetF (fl "bits") "bits" (dFld (fl "bits") "bits" (dFld (fl "honest") "honest" (dVar 0))) (dVar 0)) (dSeq (dSetF (fl "p") "p" (dFld (fl "p") "p" (dFld (fl "honest") "honest" (dVar 0))) (dVar 0)) (dSeq (dSetF (fl "claimed") "claimed" (dCB cList (dCons (dVar 3) (dNil))) (dVar 0)) (dSeq (dSetF (fl "choices") "choices" (dCB cList (dCons (dVar 4) (dNil))) (dVar 0)) (dSeq (dSetF (fl "used") "used" (dC (.int 0)) (dVar 0)) (dSetF (fl "claim") "claim" (dC (.int 0)) (dVar 0))))))))
theorem rd_Bluffer_init__g {fl : String → List String} (F : Fl_BG fl) : ∀ ds m Φ Ψ, ds.length = 5 → C_Bluffer_init__g ds m Φ Ψ → W_Bluffer_init__g fl { nx := fun _ m' => Φ .non m', rt := Φ } (fun _ => Ψ) (ds.map some ++ List.replicate (5 - ds.length) none) m := by
  intro ds m Φ Ψ _ h
  obtain ⟨cn, hcn, k, c, most, wide, b, R, cl, ch, rfl, ob, hc, hm, hw, hb, hR, hr, q⟩ := h
  have F := F.of hcn
  have hk := getLt ob
  have K0 : KeysOK blKeys [] := KeysOK.nil (by decide)
  change W_Bluffer_init__g fl _ _ [some (.hnd k), some (cD c), some (.lst (R.map intL)), some (.lst (cl.map D.int)), some (.lst (ch.map D.int))] m
  unfold W_Bluffer_init__g
  refine dSeq_k fun k1 h1 => ?_
  walk_at "dx"
  refine ⟨m.M.length, c, most, wide, b, R, rfl, app_len, hc, hm, hw, hb, hR, hr, fun fa a0 => ⟨rfl, ?_⟩⟩
  have hkA : k < (m.M ++ [MO.ins "Answerer" fa]).length := by rw [List.length_append]; omega
  have obL := obApp ob
  rw [set_app]
  simp only [obL, moI_ins]
  refine ⟨F.honest, by decide, ?_⟩
  have oS : ∀ X, (m.M ++ [MO.ins "Answerer" fa]).set k X = m.M.set k X ++ [MO.ins "Answerer" fa] := fun X => List.set_append_left _ _ hk
  have oK : ∀ X, (m.M.set k X ++ [MO.ins "Answerer" fa])[k]? = some X := fun X => by rw [List.getElem?_append_left (by rw [List.length_set]; exact hk), List.getElem?_set_self hk]
  have oH : ∀ X, (m.M.set k X ++ [MO.ins "Answerer" fa])[m.M.length]? = some (MO.ins "Answerer" fa) := fun X => by
    have : (m.M.set k X).length = m.M.length := List.length_set
    rw [← this]; exact app_len
  have oS2 : ∀ X Y, (m.M.set k X ++ [MO.ins "Answerer" fa]).set k Y = m.M.set k Y ++ [MO.ins "Answerer" fa] := fun X Y => by
    rw [List.set_append_left _ _ (by rw [List.length_set]; exact hk), List.set_set]
  rw [oS]
  have K1 := K0.put (f := "honest") (v := .hnd m.M.length) (by decide)
  have K2 := K1.put (f := "circuit") (v := cD c) (by decide)
  have K3 := K2.put (f := "bits") (v := .int (b : Nat)) (by decide)
  have K4 := K3.put (f := "p") (v := .int c.p) (by decide)
  have K5 := K4.put (f := "claimed") (v := .lst (cl.map D.int)) (by decide)
  have K6 := K5.put (f := "choices") (v := .lst (ch.map D.int)) (by decide)
  have K7 := K6.put (f := "used") (v := .int 0) (by decide)
  have K8 := K7.put (f := "claim") (v := .int 0) (by decide)
  walk_at "nxt"
  simp only [oK, oH, moI_ins, oS2]
  walk_at "dx"
  refine ⟨F.circuit, K1.lt, ?_⟩
  walk_at "nxt"
  simp only [oK, oH, moI_ins, oS2]
  walk_at "dx"
  refine ⟨F.honest, _, by rw [lk_ne (by decide)]; exact lk_eq, ?_⟩
  simp only [oK, oH, moI_ins, oS2]
  refine ⟨F.abits, _, a0.bits, F.bits, K2.lt, ?_⟩
  rw [show (s0 c R b).b = b from rfl]
  walk_at "nxt"
  simp only [oK, oH, moI_ins, oS2]
  walk_at "dx"
  refine ⟨F.honest, _, by rw [lk_ne (by decide), lk_ne (by decide)]; exact lk_eq, ?_⟩
  simp only [oK, oH, moI_ins, oS2]
  refine ⟨F.ap, _, a0.p, F.p, K3.lt, ?_⟩
  rw [show (s0 c R b).c.p = c.p from rfl]
  walk_at "nxt"
  simp only [oK, oH, moI_ins, oS2]
  walk_at "dx"
  refine ⟨F.claimed, K4.lt, ?_⟩
  walk_at "nxt"
  simp only [oK, oH, moI_ins, oS2]
  walk_at "dx"
  refine ⟨F.choices, K5.lt, ?_⟩
  walk_at "nxt"
  simp only [oK, oH, moI_ins, oS2]
  walk_at "dx"
  refine ⟨F.used, K6.lt, ?_⟩
  walk_at "lst"
  simp only [oK, oH, moI_ins, oS2]
  refine ⟨F.claim, K7.lt, q _ fa ⟨K8, fun n hn => ?_, ?_, ?_, ?_, ?_, ?_, ?_, ?_, ?_⟩ a0⟩
  · exact clF_put rfl (clF_put rfl (clF_put (clD_pl _ (plD_ints _)) (clF_put (clD_pl _ (plD_ints _)) (clF_put rfl (clF_put rfl (clF_put (clD_pl _ (plD_c c)) (clF_put (show clD n (.hnd m.M.length) = true from decide_eq_true hn) rfl)))))))
  all_goals simp only [look_put, String.reduceEq, reduceIte] <;> rfl
end Dl

namespace Dl
open PySem L2
local macro_rules | `(tactic| walk_at "dl") => `(tactic| try simp only [dSeq, dSet, dRaise_one, dRaise_two, dTryAs, dXf, dIsE, List.lookup_cons, List.lookup_nil, beq_self_eq_true, Bool.false_eq_true, if_false, dOp, dUn, dVar, dC, dCB, dCons, dNil, dRet, dRetN, dIf, dB, dAnd, dOr, dNot, dDrop, dNext, dMethL, dSetIx, dAndV, dOrV, dNotV, dBlV, dIfE, dLst, dTup, dLstM, dCall, dChain, dAsg, dgName, dgTup, bindD, asT, dFor, diList, diRng1, diRng2, diEnumerate, diZip, diReversed, dLc, dLcM, dYes, wipeD, dAug, dSl, dSlT, dpN, dpS,
  oI, oI0, oB0, oAdd, oNeg, oEq, oNe, oIx, oIsN, oNotN, isNon, oShl, oApp, oPop, oPopAt, cLen, cInt, cAbs, cSum, cMax2, cMin2, cList, cIsi, tyD, asL, asF, asK, moL_lst, ModC, DivC,
  List.getElem?_cons_zero, List.getElem?_cons_succ, List.set_cons_zero, List.set_cons_succ, List.getElem?_nil, List.length_cons, List.length_nil, List.length_map, Option.map_some, Option.bind_some, Option.isSome_some, if_true, true_and, and_true, MM.push])
local macro_rules | `(tactic| walk_at "dx") => `(tactic| try simp only [eq_self_iff_true, okE_int, okE_bl, okE_non, eqD_int, eqD_bl, kq_NoneType_int, kq_NoneType_bool, kq_NoneType_list, kq_NoneType_tuple, kq_NoneType_str, kq_bool_int, kq_bool_bool, kq_bool_list, kq_bool_tuple, kq_bool_str, kq_int_int, kq_int_bool, kq_int_list, kq_int_tuple, kq_int_str, kq_str_int, kq_str_bool, kq_str_list, kq_str_tuple, kq_str_str, kq_list_int, kq_list_bool, kq_list_list, kq_list_tuple, kq_list_str, kq_tuple_int, kq_tuple_bool, kq_tuple_list, kq_tuple_tuple, kq_tuple_str, oInL, oIsB, oNotB, oEqH, oNeH, oShr, oExt, cMaxL, cMinL, cAny, cAll, cTuple, cListM, dRevL, dFld, dSetF, dAugF, dMeth, dMake, moI_ins, app_len, set_app, List.contains_cons, List.contains_nil, Bool.true_or,  Bool.true_eq_false, decide_true, not_true_eq_false, not_false_eq_true, Bool.not_true, Bool.not_false, decide_eq_true_eq, Bool.not_eq_true', decide_eq_false_iff_not, dSeq, dSet, dRaise_one, dRaise_two, dTryAs, dXf, dIsE, List.lookup_cons, List.lookup_nil, beq_self_eq_true, Bool.false_eq_true, if_false, dOp, dUn, dVar, dC, dCB, dCons, dNil, dRet, dRetN, dIf, dB, dAnd, dOr, dNot, dDrop, dNext, dMethL, dSetIx, dAndV, dOrV, dNotV, dBlV, dIfE, dLst, dTup, dLstM, dCall, dChain, dAsg, dgName, dgTup, bindD, asT, dFor, diList, diRng1, diRng2, diEnumerate, diZip, diReversed, dLc, dLcM, dYes, wipeD, dAug, dSl, dSlT, dpN, dpS,
  oI, oI0, oB0, oAdd, oNeg, oEq, oNe, oIx, oIsN, oNotN, isNon, oShl, oApp, oPop, oPopAt, cLen, cInt, cAbs, cSum, cMax2, cMin2, cList, cIsi, tyD, asL, asF, asK, moL_lst, ModC, DivC,
  List.getElem?_cons_zero, List.getElem?_cons_succ, List.set_cons_zero, List.set_cons_succ, List.getElem?_nil, List.length_cons, List.length_nil, List.length_map, Option.map_some, Option.bind_some, Option.isSome_some, if_true, true_and, and_true, MM.push])
local macro_rules | `(tactic| walk_at "lim") => `(tactic| repeat (first | (refine ⟨by decide, ?_⟩) | (refine ⟨by (try simp only [List.length_map, List.length_dropLast, List.length_append, List.length_cons, List.length_nil, List.length_replicate, List.length_take, List.length_drop, List.length_range]); (show _ ≤ 16777216); omega, ?_⟩)))

set_option hygiene false in
local macro_rules | `(tactic| walk_at "stp") => `(tactic| (refine dSeq_k fun k1 h1 => ?_; walk_at "dx"))
set_option hygiene false in
local macro_rules | `(tactic| walk_at "nxt") => `(tactic| (subst h1; (try dsimp only); refine dSeq_k fun k1 h1 => ?_; walk_at "dx"))
set_option hygiene false in
local macro_rules | `(tactic| walk_at "lst") => `(tactic| (subst h1; (try dsimp only); walk_at "dx"))
set_option hygiene false in
local macro_rules | `(tactic| walk_at "nxt2") => `(tactic| (subst h2; (try dsimp only); refine dSeq_k fun k2 h2 => ?_; walk_at "dx"))
set_option hygiene false in
local macro_rules | `(tactic| walk_at "stp2") => `(tactic| (refine dSeq_k fun k2 h2 => ?_; walk_at "dx"))
set_option hygiene false in
local macro_rules | `(tactic| walk_at "lst2") => `(tactic| (subst h2; (try dsimp only); walk_at "dx"))
set_option hygiene false in
local macro_rules | `(tactic| walk_at "an") => `(tactic| (walk_at "dx"; (try simp only [dgTupG, dgsCons, dgsNil, dgFld, asT, dVar, List.length_cons, List.length_nil, List.getElem?_cons_zero, ob, obL, hk, moI_ins, Fl_Answerer.circuit, Fl_Answerer.tables, Fl_Answerer.bits, Fl_Answerer.p, Fl_Answerer.steps, Fl_Answerer.layer, Fl_Answerer.round, Fl_Answerer.wide, Fl_Answerer.gates, Fl_Answerer.near, Fl_Answerer.columns, Fl_Answerer.first, Fl_Answerer.second, Fl_Answerer.share, Fl_Answerer.below, Fl_Answerer.factors, Fl_Answerer.rest, Fl_Answerer.left,
  List.getElem?_set_self, List.set_set, List.length_set, look_put, String.reduceEq, reduceIte, exists_eq_left', Option.some.injEq, true_and, and_true])))
set_option hygiene false in
local macro_rules | `(tactic| walk_at "bl") => `(tactic| (walk_at "dx"; (try simp only [dgTupG, dgsCons, dgsNil, dgFld, asT, dVar, List.length_cons, List.length_nil, List.getElem?_cons_zero, ob, obL, obh, hk, moI_ins, Fl_B1.honest, Fl_B1.circuit, Fl_B1.bits, Fl_B1.p, Fl_B1.claimed, Fl_B1.choices, Fl_B1.used, Fl_B1.claim, Fl_B1.layer, Fl_B1.point, Fl_B1.throws, Fl_B1.sent, Fl_B1.abits, Fl_B1.ap,
  List.getElem?_set_self, List.set_set, List.length_set, look_put, String.reduceEq, reduceIte, exists_eq_left', Option.some.injEq, true_and, and_true])))

/-! ### hopeful polynomials; the guesser -/
def prV (gs : List Int) (p x : Int) : Int := gs.foldl (fun r g => r * (x - g) % p) 1
def prods (gs : List Int) (p : Int) (n : Nat) : List Int := (List.range n).map fun k : Nat => prV gs p (k : Nat)
def whole (gs : List Int) (p : Int) : Int := (prV gs p 0 + prV gs p 1) % p
def C_hopeful : DC := fun ds m Φ _ => ∃ (lack p : Int) (gs : List Int) (d : Nat), ds = [.int lack, .lst (gs.map D.int), .int d, .int p] ∧ PM p ∧ Prim p ∧ InP p gs ∧ (0 ≤ lack ∧ lack < p) ∧ 1 ≤ d ∧ d ≤ 100 ∧ gs.length ≤ 100 ∧
  ((d < gs.length ∨ whole gs p = 0) → Φ .non m) ∧ (¬ (d < gs.length ∨ whole gs p = 0) → ∀ f : Int, 0 ≤ f → f < p → Cg p (f * whole gs p) lack → Φ (.lst (((prods gs p (d + 1)).map fun v => v * f % p).map D.int)) m)
def W_hopeful : DS := dSeq (dSet 4 (dLstM (dNil))) (dSeq (dFor (diRng1 (dCons (dOp oAdd (dVar 2) (dC (.int 1))) (dNil))) (dgName 5) (dSeq (dSet 8 (dC (.int 1))) (dSeq (dFor (diList (dVar 1)) (dgName 9) (dSet 8 (dOp oMod (dOp oMul (dVar 8) (dOp oSub (dVar 5) (dVar 9))) (dVar 3)))) (dDrop (dMethL oApp (dVar 4) (dCons (dVar 8) (dNil))))))) (dSeq (dSet 6 (dOp oMod (dOp oAdd (dOp oIx (dVar 4) (dC (.int 0))) (dOp oIx (dVar 4) (dC (.int 1)))) (dVar 3))) (dSeq (dIf (dOr (dB (dOp oGt (dCB cLen (dCons (dVar 1) (dNil))) (dVar 2))) (dB (dOp oEq (dVar 6) (dC (.int 0))))) (dRet (dC .non)) (dNext)) (dSeq (dSet 7 (dOp oMod (dOp oMul (dVar 0) (dCall 2 C_inverse (dCons (dVar 6) (dCons (dVar 3) (dNil))))) (dVar 3))) (dFrz 4 (dRet (dLc (diList (dVar 4)) (dgName 10) (dYes) (dOp oMod (dOp oMul (dVar 10) (dVar 7)) (dVar 3)) [10])))))))
theorem prods_len {gs : List Int} {p : Int} {n : Nat} : (prods gs p n).length = n := by
  unfold prods
  rw [List.length_map, List.length_range]
theorem prods_at {gs : List Int} {p : Int} {n k : Nat} (h : k < n) : gi (prods gs p n) (k : Nat) = prV gs p (k : Nat) := by
  unfold prods
  rw [gi_range h]
theorem prods_succ {gs : List Int} {p : Int} {n : Nat} : prods gs p (n + 1) = prods gs p n ++ [prV gs p (n : Nat)] := by
  unfold prods
  rw [List.range_succ, List.map_append]; rfl
theorem prF_pol {p : Int} : ∀ (gs : List Int) (n : Nat) (f : Int → Int), Pol p n f → Pol p (n + gs.length) fun x => gs.foldl (fun r g => r * (x - g) % p) (f x)
  | [], _, _, h => h
  | g :: gs, n, f, h => by
    have h1 : Pol p (n + 1) fun x => f x * (x - g) % p := (h.lin (-g) 1).congr fun t => Cg.mod.trans (.of_eq (by rw [Int.mul_comm]; congr 1; omega))
    have h2 := prF_pol gs (n + 1) _ h1
    rw [List.length_cons, show n + (gs.length + 1) = n + 1 + gs.length by omega]
    exact h2
theorem prV_pol {p : Int} {gs : List Int} : Pol p gs.length (prV gs p) := (prF_pol gs 0 (fun _ => 1) (.const 1)).mono (by omega)
theorem prF_zero {p x : Int} : ∀ (gs : List Int) (r : Int), Cg p r 0 → Cg p (gs.foldl (fun r g => r * (x - g) % p) r) 0
  | [], _, h => h
  | g :: gs, r, h => prF_zero gs _ (Cg.mod.trans ((h.mul .refl).trans (.of_eq (Int.zero_mul _))))
theorem prF_root {p x : Int} : ∀ (gs : List Int) (r : Int), x ∈ gs → Cg p (gs.foldl (fun r g => r * (x - g) % p) r) 0
  | g :: gs, r, h => by
    show Cg p (gs.foldl (fun r g => r * (x - g) % p) (r * (x - g) % p)) 0
    rcases List.mem_cons.mp h with e | h
    · refine prF_zero gs _ (Cg.mod.trans (.of_eq ?_))
      rw [← e, Int.sub_self, Int.mul_zero]
    · exact prF_root gs _ h
theorem rd_hopeful : ∀ ds m Φ Ψ, ds.length = 4 → C_hopeful ds m Φ Ψ → W_hopeful { nx := fun _ m' => retQ m Φ .non m', rt := retQ m Φ } (fun _ => retX m Ψ) (ds.map some ++ List.replicate (11 - ds.length) none) m := by
  intro ds m Φ Ψ _ h
  obtain ⟨lack, p, gs, d, rfl, hp, P, hi, hk, d1, d2, hl, q1, q2⟩ := h
  have hp1 := hp.1
  have hp2 := hp.2
  change W_hopeful _ _ [some (.int lack), some (D.lst (gs.map D.int)), some (.int d), some (.int p), none, none, none, none, none, none, none] m
  unfold W_hopeful
  have gx : ∀ l : List Int, (m.M ++ [MO.lst (l.map D.int)])[m.M.length]? = some (MO.lst (l.map D.int)) := fun l => by rw [List.getElem?_append_right (Nat.le_refl _)]; simp
  have st : ∀ (l : List Int) z, (m.M ++ [MO.lst (l.map D.int)]).set m.M.length z = m.M ++ [z] := fun l z => by rw [List.set_append_right _ _ (Nat.le_refl _)]; simp
  refine dSeq_k fun k1 h1 => ?_
  walk_at "dl"
  refine ⟨by decide, ?_⟩
  subst h1
  refine dSeq_k fun k1 h1 => ?_
  walk_at "dl"
  refine ⟨⟨by omega, by omega⟩, ?_⟩
  simp only [rngD0]
  rw [show ((d : Int) + 1).toNat = d + 1 by omega]
  refine forW_nat (fun k ρ m' => ∃ (v5 v6 v7 v8 v9 v10 : Option D), ρ = [some (.int lack), some (D.lst (gs.map D.int)), some (.int d), some (.int p), some (.hnd m.M.length), v5, v6, v7, v8, v9, v10] ∧ m' = ⟨m.M ++ [.lst ((prods gs p k).map D.int)], m.s⟩) ?_ ?_ ⟨_, _, _, _, _, _, rfl, rfl⟩
  · rintro k kk hk hkk ρ m' ⟨v5, v6, v7, v8, v9, v10, rfl, rfl⟩
    clear h1
    simp only [dgName]
    refine dSeq_k fun k1 h1 => ?_
    walk_at "dl"
    subst h1
    refine dSeq_k fun k1 h1 => ?_
    walk_at "dl"
    refine forW_map (inj := D.int) (fun r ρ m' => ∃ (z : Int) (v9 : Option D), ρ = [some (.int lack), some (D.lst (gs.map D.int)), some (.int d), some (.int p), some (.hnd m.M.length), some (.int k), v6, v7, some (.int z), v9, v10] ∧ m' = ⟨m.M ++ [.lst ((prods gs p k).map D.int)], m.s⟩ ∧ 0 ≤ z ∧ z < p ∧ r.foldl (fun r g => r * ((k : Int) - g) % p) z = prV gs p (k : Nat)) ?_ ?_ gs _ _ ⟨1, _, rfl, rfl, by omega, by omega, rfl⟩
    · rintro g r kr hkr ρ m' ⟨z, v9, rfl, rfl, z0, z1, hz⟩
      walk_at "dl"
      exact ⟨mulL z0 (by omega), by omega, hkr _ _ ⟨_, _, rfl, rfl, (mod_in hp1).1, (mod_in hp1).2, hz⟩⟩
    · rintro ρ m' ⟨z, v9, rfl, rfl, z0, z1, hz⟩
      have hz : z = prV gs p (k : Nat) := hz
      subst h1
      walk_at "dl"
      simp only [gx, moL_lst]
      refine ⟨rfl, by rw [List.length_map, prods_len]; show k < 16777216; omega, ?_⟩
      have e1 : (prods gs p k).map D.int ++ [D.int (prV gs p (k : Nat))] = (prods gs p (k + 1)).map D.int := by rw [prods_succ, List.map_append]; rfl
      rw [st, hz, e1]
      exact hkk _ _ ⟨_, _, _, _, _, _, rfl, rfl⟩
  · rintro ρ m' ⟨v5, v6, v7, v8, v9, v10, rfl, rfl⟩
    subst h1
    dsimp only
    refine dSeq_k fun k1 h1 => ?_
    walk_at "dl"
    simp only [gx, moL_lst]
    have p0 : gi (prods gs p (d + 1)) 0 = prV gs p 0 := prods_at (k := 0) (by omega)
    have p1 : gi (prods gs p (d + 1)) 1 = prV gs p 1 := prods_at (k := 1) (by omega)
    refine ⟨_, atI_gi (by decide) (by rw [prods_len]; omega), _, atI_gi (by decide) (by rw [prods_len]; omega), ?_⟩
    walk_at "dl"
    refine ⟨by omega, ?_⟩
    rw [p0, p1]
    change k1 [some (.int lack), some (D.lst (gs.map D.int)), some (.int d), some (.int p), some (.hnd m.M.length), v5, some (.int (whole gs p)), v7, v8, v9, v10] _
    have w0 : 0 ≤ whole gs p ∧ whole gs p < p := mod_in hp1
    subst h1
    refine dSeq_k fun k1 h1 => ?_
    walk_at "dl"
    by_cases c1 : d < gs.length
    · rw [decide_eq_true (by omega), if_pos rfl]
      exact ⟨m.M, _, _, rfl, kept.rfl, .inl rfl, rfl, q1 (.inl c1)⟩
    rw [decide_eq_false (by omega), if_neg (by decide)]
    refine ⟨rfl, rfl, ?_⟩
    rw [eqD_int]
    by_cases c2 : whole gs p = 0
    · rw [if_pos (decide_eq_true c2)]
      exact ⟨m.M, _, _, rfl, kept.rfl, .inl rfl, rfl, q1 (.inr c2)⟩
    rw [if_neg (by simpa using c2)]
    have nw : ¬ Cg p (whole gs p) 0 := fun z => by
      unfold Cg at z
      rw [Int.emod_eq_of_lt w0.1 w0.2, Int.zero_emod] at z
      exact c2 z
    subst h1
    refine dSeq_k fun k1 h1 => ?_
    walk_at "dl"
    refine ⟨_, p, rfl, hp, fun e => absurd ((Int.emod_eq_of_lt w0.1 w0.2).symm.trans e) c2, fun _ => ?_⟩
    have iv := mod_in hp1 (z := whole gs p ^ (p - 2).toNat)
    walk_at "dl"
    refine ⟨mulL hk.1 (by omega), by omega, ?_⟩
    subst h1
    unfold dFrz
    simp only [List.getElem?_cons_zero, List.getElem?_cons_succ, gx, moL_lst]
    walk_at "dl"
    have fin := mod_in hp1 (z := lack * (whole gs p ^ (p - 2).toNat % p))
    refine lcW_fn (out := D.int) (fun v => v * (lack * (whole gs p ^ (p - 2).toNat % p) % p) % p) _ (prods gs p (d + 1)) (fun v _ m2 Θ hΘ => ?_) (fun _ => rfl) (by rw [prods_len]; show _ ≤ 16777216; omega) ?_
    · walk_at "dl"
      exact ⟨mulR fin.1 (by omega), by omega, hΘ⟩
    · rw [st]
      refine ⟨m.M, _, _, rfl, kept.rfl, .inl rfl, clAll_ints _, q2 (fun z => z.elim c1 c2) _ fin.1 fin.2 ?_⟩
      refine (Cg.mod.mul .refl).trans ?_
      have h3 : Cg p (whole gs p ^ (p - 2).toNat % p * whole gs p) 1 := (Cg.mod.mul .refl).trans (fermat_inv P nw)
      have h4 := (Cg.refl (a := lack)).mul h3
      rw [Int.mul_one, ← Int.mul_assoc] at h4
      exact h4
/-! ### the guesser's polynomials -/
def guS (s : BS) (vs : List Int) : List Int := (List.range (vs.length - 1)).map fun i : Nat => chF s.ch s.s.c.p (s.used + i)
/-- what a guesser sends: the honest values and a difference -/
def GSent (s : BS) (S : List Int) : Prop := ∃ (D : List Int), D.length = (polyF s.s).length ∧ S = (List.range (polyF s.s).length).map (fun i : Nat => (gi (polyF s.s) (i : Nat) + gi D (i : Nat)) % s.s.c.p) ∧
  let lack := (s.claim - gi (polyF s.s) 0 - gi (polyF s.s) 1) % s.s.c.p
  let gs := guS s (polyF s.s)
  ((whole gs s.s.c.p = 0 ∧ D = (List.replicate (polyF s.s).length 0).set 1 lack) ∨ (whole gs s.s.c.p ≠ 0 ∧ ∃ f : Int, 0 ≤ f ∧ f < s.s.c.p ∧ Cg s.s.c.p (f * whole gs s.s.c.p) lack ∧ D = (prods gs s.s.c.p (polyF s.s).length).map fun v => v * f % s.s.c.p))
def gPoly (s : BS) (S : List Int) : BS := { s with s := polyS s.s, used := s.used + ((polyF s.s).length - 1), sent := S }
def C_Guesser_poly : DC := fun ds m Φ _ => ∃ (k h : Nat) (fs fa : List (String × D)) (s : BS), ds = [.hnd k] ∧ m.M[k]? = some (.ins "Guesser" fs) ∧ m.M[h]? = some (.ins "Answerer" fa) ∧ BF1 fs h s ∧ AnsOK fa s.s ∧ Prim s.s.c.p ∧ s.s.round < s.s.b + 2 * s.s.wide ∧ 0 ≤ s.claim ∧ s.claim < s.s.c.p ∧
  ∀ fs' fa' S, GSent s S → BF1 fs' h (gPoly s S) → fs'.lookup "sent" = some (.lst (S.map D.int)) → AnsOK fa' (polyS s.s) → Φ (.lst (S.map D.int)) ⟨(m.M.set k (.ins "Guesser" fs')).set h (.ins "Answerer" fa'), m.s⟩
def W_Guesser_poly (fl : String → List String) : DS := dSeq (dSet 1 (dMeth [("Answerer", C_Answerer_poly)] "poly" 0 (dFld (fl "honest") "honest" (dVar 0)) dNil)) (dSeq (dSet 2 (dOp oMod (dOp oSub (dOp oSub (dFld (fl "claim") "claim" (dVar 0)) (dOp oIx (dVar 1) (dC (.int 0)))) (dOp oIx (dVar 1) (dC (.int 1)))) (dFld (fl "p") "p" (dVar 0)))) (dSeq (dSet 3 (dOp oSub (dCB cLen (dCons (dVar 1) (dNil))) (dC (.int 1)))) (dSeq (dSet 4 (dLcS (diRng1 (dCons (dVar 3) (dNil))) (dgName 6) (dYes) (dMeth [("Guesser", C_Bluffer_choice__g)] "choice" 0 (dVar 0) dNil) [6])) (dSeq (dSet 5 (dCall 4 C_hopeful (dCons (dVar 2) (dCons (dVar 4) (dCons (dVar 3) (dCons (dFld (fl "p") "p" (dVar 0)) (dNil))))))) (dSeq (dIf (dB (dOp oIsN (dVar 5) (dC .non))) (dSeq (dSet 5 (dOp oRepM (dLst (dCons (dC (.int 0)) (dNil))) (dCB cLen (dCons (dVar 1) (dNil))))) (dSetIx (dVar 2) (dVar 5) (dC (.int 1)))) (dNext)) (dSeq (dSetF (fl "sent") "sent" (dLc (diRng1 (dCons (dCB cLen (dCons (dVar 1) (dNil))) (dNil))) (dgName 6) (dYes) (dOp oMod (dOp oAdd (dOp oIx (dVar 1) (dVar 6)) (dOp oIx (dVar 5) (dVar 6))) (dFld (fl "p") "p" (dVar 0))) [6]) (dVar 0)) (dRet (dCB cList (dCons (dFld (fl "sent") "sent" (dVar 0)) (dNil))))))))))
theorem rd_Guesser_poly {fl : String → List String} (F : Fl_BG fl) : ∀ ds m Φ Ψ, ds.length = 1 → C_Guesser_poly ds m Φ Ψ → W_Guesser_poly fl { nx := fun _ m' => retQ m Φ .non m', rt := retQ m Φ } (fun _ => retX m Ψ) (ds.map some ++ List.replicate (7 - ds.length) none) m := by
  intro ds m Φ Ψ _ h
  obtain ⟨k, h, fs, fa, s, rfl, ob, obh, b, ok, P, hr, c0, c1, q⟩ := h
  have F := F.of (.inr rfl)
  have hk := getLt ob
  have hh := getLt obh
  have obL := obApp ob
  have hkh := ne_of ob obh (by decide)
  have hp := ok.v1.pm
  have hp1 := hp.1
  have hp2 := hp.2
  change W_Guesser_poly fl _ _ [some (.hnd k), none, none, none, none, none, none] m
  unfold W_Guesser_poly
  walk_at "stp"
  walk_at "bl"
  refine ⟨_, b.honest, ?_⟩
  walk_at "bl"
  refine ⟨notkey ok.a0.k (by decide), h, fa, s.s, rfl, obh, ok.a1, ok.v1, ok.two, hr, ?_⟩
  have pl := polyF_len (s := s.s)
  have p4 : 3 ≤ (polyF s.s).length ∧ (polyF s.s).length ≤ 4 := by rw [pl]; split <;> omega
  have ok2 := ok.poly
  have bp := b.p
  rw [show stD (polyS s.s).steps fa = MO.ins "Answerer" (putD "steps" (.int (polyS s.s).steps) fa) from rfl]
  generalize putD "steps" (.int (polyS s.s).steps) fa = fa2 at *
  have kM : (m.M.set h (.ins "Answerer" fa2))[k]? = some (.ins "Guesser" fs) := by rw [List.getElem?_set_ne (fun e => hkh e.symm)]; exact ob
  have kL : k < (m.M.set h (.ins "Answerer" fa2)).length := by rw [List.length_set]; exact hk
  have hM : ∀ X, ((m.M.set h (.ins "Answerer" fa2)).set k X) = (m.M.set k X).set h (.ins "Answerer" fa2) := fun X => List.set_comm _ _ (fun e => hkh e.symm)
  have M1l : (m.M.set h (.ins "Answerer" fa2)).length = m.M.length := List.length_set
  generalize hM1 : m.M.set h (.ins "Answerer" fa2) = M1 at *
  obtain ⟨vs, hvs⟩ : ∃ vs, vs = polyF s.s := ⟨_, rfl⟩
  rw [← hvs] at p4 ⊢
  have vin : InP s.s.c.p vs := fun x hx => by
    rw [hvs] at hx
    unfold polyF at hx
    split at hx
    · obtain ⟨_, _, rfl⟩ := List.mem_map.mp hx
      exact mod_in hp1
    · obtain ⟨_, _, rfl⟩ := List.mem_map.mp hx
      exact mod_in hp1
  have ob0 := ob
  have ob := kM
  have hk0 := hk
  have hk := kL
  have obL := obApp ob
  walk_at "nxt"
  walk_at "bl"
  refine ⟨_, b.claim, _, atI_gi (by decide) (by omega), _, atI_gi (by decide) (by omega), ?_⟩
  walk_at "bl"
  refine ⟨_, b.p, ?_⟩
  walk_at "dx"
  refine ⟨by omega, ?_⟩
  have lin := mod_in (p := s.s.c.p) hp1 (z := s.claim - gi vs 0 - gi vs 1)
  obtain ⟨lack, hlack⟩ : ∃ lack, lack = (s.claim - gi vs 0 - gi vs 1) % s.s.c.p := ⟨_, rfl⟩
  rw [← hlack] at lin ⊢
  walk_at "nxt"
  subst h1
  refine dSeq_k fun k1 h1 => ?_
  unfold dLcS
  walk_at "bl"
  obtain ⟨n, hn⟩ : ∃ n, vs.length = n + 1 := ⟨vs.length - 1, by omega⟩
  rw [hn, show (((n + 1 : Nat) : Int) - 1) = ((n : Nat) : Int) by omega]
  refine ⟨⟨by omega, by omega⟩, ?_⟩
  rw [rngD0, Int.toNat_natCast]
  have chin : ∀ u, 0 ≤ chF s.ch s.s.c.p u ∧ chF s.ch s.s.c.p u < s.s.c.p := fun u => by
    unfold chF
    split
    · exact mod_in hp1
    · omega
  refine lcWS_fn (out := fun i : Nat => D.int (chF s.ch s.s.c.p (s.used + i))) (fun r m' => ∃ (j : Nat) (fs' : List (String × D)), r = List.range' j (n - j) ∧ j ≤ n ∧ BF1 fs' h { s with used := s.used + j } ∧ m' = ⟨M1.set k (.ins "Guesser" fs'), m.s⟩) ?_ (List.range n) _ [] (by rw [List.length_range]; show 0 + n ≤ 16777216; omega) ⟨0, fs, by rw [Nat.sub_zero]; exact List.range_eq_range', by omega, b, by rw [set_same ob]⟩ ?_
  · rintro x r m2 acc Θ ⟨j, fs', hr', hj, b', rfl⟩ hΘ
    have hj2 : j < n := by
      rcases Nat.lt_or_ge j n with z | z
      · exact z
      · rw [show n - j = 0 by omega] at hr'; cases hr'
    obtain ⟨n2, hn2⟩ : ∃ n2, n - j = n2 + 1 := ⟨n - j - 1, by omega⟩
    rw [hn2, List.range'_succ] at hr'
    obtain ⟨rfl, rfl⟩ := List.cons.inj hr'
    have kL2 : k < (M1.set k (.ins "Guesser" fs')).length := by rw [List.length_set]; exact kL
    walk_at "dx"
    rw [List.getElem?_append_left kL2, List.getElem?_set_self kL]
    simp only [moI_ins]
    walk_at "dx"
    refine ⟨notkey b'.k (by decide), "Guesser", .inr rfl, k, h, fs', _, rfl, by rw [List.getElem?_append_left kL2, List.getElem?_set_self kL], b'.toBF, hp, ?_⟩
    have b2 := b'.usd (s.used + x + 1)
    rw [List.set_append_left _ _ kL2, List.set_set]
    dsimp only at b2 ⊢
    generalize putD "used" (.int (s.used + x + 1 : Nat)) fs' = fs2 at *
    refine hΘ _ _ ?_ rfl ⟨x + 1, fs2, by rw [show n - (x + 1) = n2 by omega], by omega, b2, rfl⟩
    have z := (kept.rfl (m := ⟨M1.set k (.ins "Guesser" fs'), m.s⟩)).set (k := k) (o := .ins "Guesser" fs2) (b2.cl _ (by show h < (M1.set k _).length; rw [List.length_set, M1l]; exact hh))
    rw [List.set_set] at z
    exact z
  · rintro m2 ⟨j, fs', hr', hj, b', rfl⟩
    have ej : j = n := by
      rcases Nat.lt_or_ge j n with z | z
      · obtain ⟨n2, hn2⟩ : ∃ n2, n - j = n2 + 1 := ⟨n - j - 1, by omega⟩
        rw [hn2, List.range'_succ] at hr'; cases hr'
      · omega
    subst ej
    obtain ⟨gs, hgs⟩ : ∃ gs, gs = guS s vs := ⟨_, rfl⟩
    have gsl : gs.length = j := by rw [hgs]; unfold guS; rw [List.length_map, List.length_range]; omega
    have gsin : InP s.s.c.p gs := fun x hx => by
      rw [hgs] at hx
      obtain ⟨_, _, rfl⟩ := List.mem_map.mp hx
      exact chin _
    rw [List.nil_append, show ((List.range j).map fun i : Nat => D.int (chF s.ch s.s.c.p (s.used + i))) = gs.map D.int by rw [hgs]; unfold guS; rw [hn, Nat.add_sub_cancel, List.map_map]; rfl]
    have M2k : (M1.set k (.ins "Guesser" fs'))[k]? = some (.ins "Guesser" fs') := List.getElem?_set_self kL
    have M2l : (M1.set k (.ins "Guesser" fs')).length = m.M.length := by rw [List.length_set]; exact M1l
    have M2s : ∀ X, (M1.set k (.ins "Guesser" fs')).set k X = M1.set k X := fun X => List.set_set ..
    generalize M1.set k (.ins "Guesser" fs') = M2 at M2k M2l M2s ⊢
    have ob := M2k
    have obL := obApp M2k
    have hk := getLt M2k
    walk_at "nxt"
    walk_at "bl"
    refine ⟨_, b'.p, ?_⟩
    refine ⟨lack, s.s.c.p, gs, j, rfl, hp, P, gsin, lin, by omega, by omega, by omega, fun hz => ?_, fun hz f f0 f1 hf => ?_⟩
    · walk_at "nxt"
      refine ⟨by decide, ?_⟩
      unfold oRepM
      dsimp only
      rw [Int.toNat_natCast, rep_flat]
      refine ⟨by rw [hn]; show 1 * _ ≤ 16777216; omega, by omega, by omega, ?_⟩
      walk_at "dx"
      refine ⟨1, ixN_of (by decide) (by rw [List.length_replicate]; omega), ?_⟩
      rw [← List.map_set]
      obtain ⟨DD, hDD⟩ : ∃ DD, DD = (List.replicate vs.length (0 : Int)).set 1 lack := ⟨_, rfl⟩
      have DDl : DD.length = vs.length := by rw [hDD, List.length_set, List.length_replicate]
      rw [← hDD]
      have xD : ∀ L, (M2 ++ MO.lst (DD.map D.int) :: L)[M2.length]? = some (MO.lst (DD.map D.int)) := fun L => by rw [List.getElem?_append_right (Nat.le_refl _), Nat.sub_self]; rfl
      have xD : ∀ a, (M2 ++ [MO.lst (DD.map D.int)] ++ [a])[M2.length]? = some (MO.lst (DD.map D.int)) := fun a => by rw [List.append_assoc]; exact xD _
      have xS : ∀ X, (M2 ++ [MO.lst (DD.map D.int)]).set k X = M2.set k X ++ [MO.lst (DD.map D.int)] := fun X => List.set_append_left _ _ hk
      have xG : ∀ X, (M2.set k X ++ [MO.lst (DD.map D.int)])[k]? = some X := fun X => by rw [List.getElem?_append_left (by rw [List.length_set]; exact hk), List.getElem?_set_self hk]
      have xO : ∀ a b, (M2 ++ [a] ++ [b])[k]? = some (MO.ins "Guesser" fs') := fun a b => by rw [List.append_assoc]; exact obL _
      have xO2 : ∀ a, (M2 ++ [a])[k]? = some (MO.ins "Guesser" fs') := fun a => obL _
      walk_at "nxt"
      walk_at "bl"
      refine ⟨⟨by omega, by omega⟩, ?_⟩
      rw [rngD0, Int.toNat_natCast]
      refine lcW_fnM (inj := fun i : Nat => D.int (i : Nat)) (out := D.int) (fun i : Nat => (gi vs (i : Nat) + gi DD (i : Nat)) % s.s.c.p) _ (List.range vs.length) ?_ (fun _ => rfl) (by rw [List.length_range]; show _ ≤ 16777216; omega) ?_
      · intro i hi acc Θ hΘ
        have hi := List.mem_range.mp hi
        walk_at "dx"
        (try simp only [xD])
        refine ⟨_, atI_gi (by omega) (by omega), _, atI_gi (by omega) (by omega), ?_⟩
        walk_at "dx"
        simp only [obL, xO, moI_ins]
        refine ⟨F.p, _, b'.p, ?_⟩
        walk_at "dx"
        exact ⟨by omega, hΘ⟩
      obtain ⟨S, hS⟩ : ∃ S, S = (List.range vs.length).map (fun i : Nat => (gi vs (i : Nat) + gi DD (i : Nat)) % s.s.c.p) := ⟨_, rfl⟩
      rw [← hS]
      walk_at "bl"
      (try simp only [xO2, moI_ins])
      refine ⟨b'.k.lt, ?_⟩
      have b3 := b'.toBF.putE (f := "sent") (v := .lst (S.map D.int)) (by decide) (plD_ints _)
      have hly : (putD "sent" (.lst (S.map D.int)) fs').lookup "layer" = some (.int (s.layer : Nat)) := (lk_ne (by decide)).trans b'.layer
      have hpt : (putD "sent" (.lst (S.map D.int)) fs').lookup "point" = some (.lst (s.point.map D.int)) := (lk_ne (by decide)).trans b'.point
      have hth : (putD "sent" (.lst (S.map D.int)) fs').lookup "throws" = some (.lst (s.throws.map D.int)) := (lk_ne (by decide)).trans b'.throws
      have hse : (putD "sent" (.lst (S.map D.int)) fs').lookup "sent" = some (.lst (S.map D.int)) := lk_eq
      generalize putD "sent" (.lst (S.map D.int)) fs' = fs3 at *
      walk_at "lst"
      rw [xS]
      simp only [xG, moI_ins]
      refine ⟨F.sent, _, hse, ?_⟩
      walk_at "dx"
      rw [M2s, hM]
      refine ⟨(m.M.set k (.ins "Guesser" fs3)).set h (.ins "Answerer" fa2), [MO.lst (DD.map D.int)], _, rfl, (kept.rfl.set (show clO m.M.length (.ins "Guesser" fs3) = true from b3.cl _ hh)).set (show clO m.M.length (.ins "Answerer" fa2) = true from PlF.cl ok2.a1.pl), .inl rfl, clAll_ints _, q fs3 fa2 S ⟨DD, by rw [← hvs, DDl], by rw [← hvs, hS], ?_⟩ ⟨b3.same rfl rfl ?_, hly, hpt, hth⟩ hse ok2⟩
      · rw [← hvs, ← hlack, ← hgs, hDD]
        exact .inl ⟨hz.resolve_left (by omega), rfl⟩
      · show (s.cl, s.ch, s.used + ((polyF s.s).length - 1), s.claim) = (s.cl, s.ch, s.used + j, s.claim)
        rw [← hvs, hn, Nat.add_sub_cancel]
    · obtain ⟨DD, hDD⟩ : ∃ DD, DD = (prods gs s.s.c.p (j + 1)).map fun v => v * f % s.s.c.p := ⟨_, rfl⟩
      have DDl : DD.length = vs.length := by rw [hDD, List.length_map, prods_len, hn]
      have xO : ∀ a, (M2 ++ [a])[k]? = some (MO.ins "Guesser" fs') := fun a => obL _
      have xO2 := ob
      have xD : True := trivial
      rw [← hDD]
      walk_at "nxt"
      walk_at "nxt"
      walk_at "bl"
      refine ⟨⟨by omega, by omega⟩, ?_⟩
      rw [rngD0, Int.toNat_natCast]
      refine lcW_fnM (inj := fun i : Nat => D.int (i : Nat)) (out := D.int) (fun i : Nat => (gi vs (i : Nat) + gi DD (i : Nat)) % s.s.c.p) _ (List.range vs.length) ?_ (fun _ => rfl) (by rw [List.length_range]; show _ ≤ 16777216; omega) ?_
      · intro i hi acc Θ hΘ
        have hi := List.mem_range.mp hi
        walk_at "dx"
        (try simp only [xD])
        refine ⟨_, atI_gi (by omega) (by omega), _, atI_gi (by omega) (by omega), ?_⟩
        walk_at "dx"
        simp only [obL, xO, moI_ins]
        refine ⟨F.p, _, b'.p, ?_⟩
        walk_at "dx"
        exact ⟨by omega, hΘ⟩
      obtain ⟨S, hS⟩ : ∃ S, S = (List.range vs.length).map (fun i : Nat => (gi vs (i : Nat) + gi DD (i : Nat)) % s.s.c.p) := ⟨_, rfl⟩
      rw [← hS]
      walk_at "bl"
      (try simp only [xO2, moI_ins])
      refine ⟨b'.k.lt, ?_⟩
      have b3 := b'.toBF.putE (f := "sent") (v := .lst (S.map D.int)) (by decide) (plD_ints _)
      have hly : (putD "sent" (.lst (S.map D.int)) fs').lookup "layer" = some (.int (s.layer : Nat)) := (lk_ne (by decide)).trans b'.layer
      have hpt : (putD "sent" (.lst (S.map D.int)) fs').lookup "point" = some (.lst (s.point.map D.int)) := (lk_ne (by decide)).trans b'.point
      have hth : (putD "sent" (.lst (S.map D.int)) fs').lookup "throws" = some (.lst (s.throws.map D.int)) := (lk_ne (by decide)).trans b'.throws
      have hse : (putD "sent" (.lst (S.map D.int)) fs').lookup "sent" = some (.lst (S.map D.int)) := lk_eq
      generalize putD "sent" (.lst (S.map D.int)) fs' = fs3 at *
      walk_at "lst"
      simp only [List.getElem?_set_self hk, moI_ins]
      refine ⟨F.sent, _, hse, ?_⟩
      walk_at "dx"
      rw [M2s, hM]
      refine ⟨(m.M.set k (.ins "Guesser" fs3)).set h (.ins "Answerer" fa2), [], _, by rw [List.append_nil], (kept.rfl.set (show clO m.M.length (.ins "Guesser" fs3) = true from b3.cl _ hh)).set (show clO m.M.length (.ins "Answerer" fa2) = true from PlF.cl ok2.a1.pl), .inl rfl, clAll_ints _, q fs3 fa2 S ⟨DD, by rw [← hvs, DDl], by rw [← hvs, hS], ?_⟩ ⟨b3.same rfl rfl ?_, hly, hpt, hth⟩ hse ok2⟩
      · rw [← hvs, ← hlack, ← hgs, hDD]
        exact .inr ⟨fun e => hz (.inr e), f, f0, f1, hf, by rw [hn]⟩
      · show (s.cl, s.ch, s.used + ((polyF s.s).length - 1), s.claim) = (s.cl, s.ch, s.used + j, s.claim)
        rw [← hvs, hn, Nat.add_sub_cancel]
end Dl

namespace K36
open PySem L2 Dl
local macro_rules | `(tactic| walk_at "dl") => `(tactic| try simp only [dSeq, dSet, dRaise_one, dRaise_two, dTryAs, dXf, dIsE, List.lookup_cons, List.lookup_nil, beq_self_eq_true, Bool.false_eq_true, if_false, dOp, dUn, dVar, dC, dCB, dCons, dNil, dRet, dRetN, dIf, dB, dAnd, dOr, dNot, dDrop, dNext, dMethL, dSetIx, dAndV, dOrV, dNotV, dBlV, dIfE, dLst, dTup, dLstM, dCall, dChain, dAsg, dgName, dgTup, bindD, asT, dFor, diList, diRng1, diRng2, diEnumerate, diZip, diReversed, dLc, dLcM, dYes, wipeD, dAug, dSl, dSlT, dpN, dpS,
  oI, oI0, oB0, oAdd, oNeg, oEq, oNe, oIx, oIsN, oNotN, isNon, oShl, oApp, oPop, oPopAt, cLen, cInt, cAbs, cSum, cMax2, cMin2, cList, cIsi, tyD, asL, asF, asK, moL_lst, ModC, DivC,
  List.getElem?_cons_zero, List.getElem?_cons_succ, List.set_cons_zero, List.set_cons_succ, List.getElem?_nil, List.length_cons, List.length_nil, List.length_map, Option.map_some, Option.bind_some, Option.isSome_some, if_true, true_and, and_true, MM.push])
local macro_rules | `(tactic| walk_at "dx") => `(tactic| try simp only [eq_self_iff_true, okE_int, okE_bl, okE_non, eqD_int, eqD_bl, kq_NoneType_int, kq_NoneType_bool, kq_NoneType_list, kq_NoneType_tuple, kq_NoneType_str, kq_bool_int, kq_bool_bool, kq_bool_list, kq_bool_tuple, kq_bool_str, kq_int_int, kq_int_bool, kq_int_list, kq_int_tuple, kq_int_str, kq_str_int, kq_str_bool, kq_str_list, kq_str_tuple, kq_str_str, kq_list_int, kq_list_bool, kq_list_list, kq_list_tuple, kq_list_str, kq_tuple_int, kq_tuple_bool, kq_tuple_list, kq_tuple_tuple, kq_tuple_str, oInL, oIsB, oNotB, oEqH, oNeH, oShr, oExt, cMaxL, cMinL, cAny, cAll, cTuple, cListM, dRevL, dFld, dSetF, dAugF, dMeth, dMake, moI_ins, app_len, set_app, List.contains_cons, List.contains_nil, Bool.true_or,  Bool.true_eq_false, decide_true, not_true_eq_false, not_false_eq_true, Bool.not_true, Bool.not_false, decide_eq_true_eq, Bool.not_eq_true', decide_eq_false_iff_not, dSeq, dSet, dRaise_one, dRaise_two, dTryAs, dXf, dIsE, List.lookup_cons, List.lookup_nil, beq_self_eq_true, Bool.false_eq_true, if_false, dOp, dUn, dVar, dC, dCB, dCons, dNil, dRet, dRetN, dIf, dB, dAnd, dOr, dNot, dDrop, dNext, dMethL, dSetIx, dAndV, dOrV, dNotV, dBlV, dIfE, dLst, dTup, dLstM, dCall, dChain, dAsg, dgName, dgTup, bindD, asT, dFor, diList, diRng1, diRng2, diEnumerate, diZip, diReversed, dLc, dLcM, dYes, wipeD, dAug, dSl, dSlT, dpN, dpS,
  oI, oI0, oB0, oAdd, oNeg, oEq, oNe, oIx, oIsN, oNotN, isNon, oShl, oApp, oPop, oPopAt, cLen, cInt, cAbs, cSum, cMax2, cMin2, cList, cIsi, tyD, asL, asF, asK, moL_lst, ModC, DivC,
  List.getElem?_cons_zero, List.getElem?_cons_succ, List.set_cons_zero, List.set_cons_succ, List.getElem?_nil, List.length_cons, List.length_nil, List.length_map, Option.map_some, Option.bind_some, Option.isSome_some, if_true, true_and, and_true, MM.push])
local macro_rules | `(tactic| walk_at "lim") => `(tactic| repeat (first | (refine ⟨by decide, ?_⟩) | (refine ⟨by (try simp only [List.length_map, List.length_dropLast, List.length_append, List.length_cons, List.length_nil, List.length_replicate, List.length_take, List.length_drop, List.length_range]); (show _ ≤ 16777216); omega, ?_⟩)))

set_option hygiene false in
local macro_rules | `(tactic| walk_at "stp") => `(tactic| (refine dSeq_k fun k1 h1 => ?_; walk_at "dx"))
set_option hygiene false in
local macro_rules | `(tactic| walk_at "nxt") => `(tactic| (subst h1; (try dsimp only); refine dSeq_k fun k1 h1 => ?_; walk_at "dx"))
set_option hygiene false in
local macro_rules | `(tactic| walk_at "lst") => `(tactic| (subst h1; (try dsimp only); walk_at "dx"))
set_option hygiene false in
local macro_rules | `(tactic| walk_at "nxt2") => `(tactic| (subst h2; (try dsimp only); refine dSeq_k fun k2 h2 => ?_; walk_at "dx"))
set_option hygiene false in
local macro_rules | `(tactic| walk_at "stp2") => `(tactic| (refine dSeq_k fun k2 h2 => ?_; walk_at "dx"))
set_option hygiene false in
local macro_rules | `(tactic| walk_at "lst2") => `(tactic| (subst h2; (try dsimp only); walk_at "dx"))


def top (i : Nat) : Stmt := PySem.Challenge.pw_layerask_k36_a_right_guess_makes_the_cla.main.body.getD i (.Pass ⟨0, 0, 0, 0⟩)
abbrev s_FieldError_init : Stmt := inClass (top 2) 0
theorem sc_FieldError_init : FnScope ["self", "number"] ["self", "number"] (defScope s_FieldError_init) := ⟨rfl, rfl, rfl, by decide +kernel, rfl, by decide +kernel, by decide +kernel⟩
abbrev s_CircuitError_init : Stmt := inClass (top 3) 0
theorem sc_CircuitError_init : FnScope ["self", "part"] ["self", "part"] (defScope s_CircuitError_init) := ⟨rfl, rfl, rfl, by decide +kernel, rfl, by decide +kernel, by decide +kernel⟩
abbrev s_SizeError_init : Stmt := inClass (top 4) 0
theorem sc_SizeError_init : FnScope ["self", "limit"] ["self", "limit"] (defScope s_SizeError_init) := ⟨rfl, rfl, rfl, by decide +kernel, rfl, by decide +kernel, by decide +kernel⟩
abbrev s_is_prime : Stmt := top 7
theorem sc_is_prime : FnScope ["number", "k"] ["number"] (defScope s_is_prime) := ⟨rfl, rfl, rfl, by decide +kernel, rfl, by decide +kernel, by decide +kernel⟩
abbrev s_check_modulus : Stmt := top 8
theorem sc_check_modulus : FnScope ["p"] ["p"] (defScope s_check_modulus) := ⟨rfl, rfl, rfl, by decide +kernel, rfl, by decide +kernel, by decide +kernel⟩
abbrev s_power : Stmt := top 9
theorem sc_power : FnScope ["base", "exponent", "p", "result", "square"] ["base", "exponent", "p"] (defScope s_power) := ⟨rfl, rfl, rfl, by decide +kernel, rfl, by decide +kernel, by decide +kernel⟩
abbrev s_inverse : Stmt := top 10
theorem sc_inverse : FnScope ["number", "p"] ["number", "p"] (defScope s_inverse) := ⟨rfl, rfl, rfl, by decide +kernel, rfl, by decide +kernel, by decide +kernel⟩
abbrev s_fits : Stmt := top 16
theorem sc_fits : FnScope ["thing", "most"] ["thing", "most"] (defScope s_fits) := ⟨rfl, rfl, rfl, by decide +kernel, rfl, by decide +kernel, by decide +kernel⟩
abbrev s_is_gate : Stmt := top 17
theorem sc_is_gate : FnScope ["gate", "p", "columns", "numbers"] ["gate", "p", "columns"] (defScope s_is_gate) := ⟨rfl, rfl, rfl, by decide +kernel, rfl, by decide +kernel, by decide +kernel⟩
abbrev s_is_shaped : Stmt := top 18
theorem sc_is_shaped : FnScope ["circuit", "kind", "p", "widths", "layers", "bits"] ["circuit"] (defScope s_is_shaped) := ⟨rfl, rfl, rfl, by decide +kernel, rfl, by decide +kernel, by decide +kernel⟩
abbrev s_checked : Stmt := top 19
theorem sc_checked : FnScope ["circuit", "kind", "p", "widths", "layers", "i", "bits", "gate"] ["circuit"] (defScope s_checked) := ⟨rfl, rfl, rfl, by decide +kernel, rfl, by decide +kernel, by decide +kernel⟩
abbrev s_modulus : Stmt := top 20
theorem sc_modulus : FnScope ["circuit"] ["circuit"] (defScope s_modulus) := ⟨rfl, rfl, rfl, by decide +kernel, rfl, by decide +kernel, by decide +kernel⟩
abbrev s_depth : Stmt := top 21
theorem sc_depth : FnScope ["circuit"] ["circuit"] (defScope s_depth) := ⟨rfl, rfl, rfl, by decide +kernel, rfl, by decide +kernel, by decide +kernel⟩
abbrev s_width : Stmt := top 22
theorem sc_width : FnScope ["circuit", "layer"] ["circuit", "layer"] (defScope s_width) := ⟨rfl, rfl, rfl, by decide +kernel, rfl, by decide +kernel, by decide +kernel⟩
abbrev s_row_bits : Stmt := top 23
theorem sc_row_bits : FnScope ["rows", "bits"] ["rows"] (defScope s_row_bits) := ⟨rfl, rfl, rfl, by decide +kernel, rfl, by decide +kernel, by decide +kernel⟩
abbrev s_checked_rows : Stmt := top 24
theorem sc_checked_rows : FnScope ["circuit", "rows", "p", "many", "row", "part"] ["circuit", "rows"] (defScope s_checked_rows) := ⟨rfl, rfl, rfl, by decide +kernel, rfl, by decide +kernel, by decide +kernel⟩
abbrev s_gate_value : Stmt := top 25
theorem sc_gate_value : FnScope ["gate", "below", "p"] ["gate", "below", "p"] (defScope s_gate_value) := ⟨rfl, rfl, rfl, by decide +kernel, rfl, by decide +kernel, by decide +kernel⟩
abbrev s_run_row : Stmt := top 26
theorem sc_run_row : FnScope ["circuit", "inputs", "p", "found", "gates", "gate"] ["circuit", "inputs"] (defScope s_run_row) := ⟨rfl, rfl, rfl, by decide +kernel, rfl, by decide +kernel, by decide +kernel⟩
abbrev s_run : Stmt := top 27
theorem sc_run : FnScope ["circuit", "rows", "found", "tables", "layer", "table", "column", "row", "columns"] ["circuit", "rows"] (defScope s_run) := ⟨rfl, rfl, rfl, by decide +kernel, rfl, by decide +kernel, by decide +kernel⟩
abbrev s_point_table : Stmt := top 29
theorem sc_point_table : FnScope ["point", "p", "table", "number", "low", "high", "entry"] ["point", "p"] (defScope s_point_table) := ⟨rfl, rfl, rfl, by decide +kernel, rfl, by decide +kernel, by decide +kernel⟩
abbrev s_value_at : Stmt := top 30
theorem sc_value_at : FnScope ["table", "point", "p", "number"] ["table", "point", "p"] (defScope s_value_at) := ⟨rfl, rfl, rfl, by decide +kernel, rfl, by decide +kernel, by decide +kernel⟩
abbrev s_fold : Stmt := top 31
theorem sc_fold : FnScope ["table", "number", "p", "half", "k"] ["table", "number", "p"] (defScope s_fold) := ⟨rfl, rfl, rfl, by decide +kernel, rfl, by decide +kernel, by decide +kernel⟩
abbrev s_weighted_gates : Stmt := top 36
theorem sc_weighted_gates : FnScope ["gates", "weights", "p", "found", "gate", "weight"] ["gates", "weights", "p"] (defScope s_weighted_gates) := ⟨rfl, rfl, rfl, by decide +kernel, rfl, by decide +kernel, by decide +kernel⟩
abbrev s_gates_sum : Stmt := top 37
theorem sc_gates_sum : FnScope ["gates", "columns", "p", "total", "a", "b", "c", "x", "y"] ["gates", "columns", "p"] (defScope s_gates_sum) := ⟨rfl, rfl, rfl, by decide +kernel, rfl, by decide +kernel, by decide +kernel⟩
abbrev s_at_number : Stmt := top 38
theorem sc_at_number : FnScope ["table", "k", "number"] ["table", "k", "number"] (defScope s_at_number) := ⟨rfl, rfl, rfl, by decide +kernel, rfl, by decide +kernel, by decide +kernel⟩
abbrev s_Answerer_init : Stmt := inClass (top 39) 0
theorem sc_Answerer_init : FnScope ["self", "circuit", "rows"] ["self", "circuit", "rows"] (defScope s_Answerer_init) := ⟨rfl, rfl, rfl, by decide +kernel, rfl, by decide +kernel, by decide +kernel⟩
abbrev s_Answerer_outputs : Stmt := inClass (top 39) 1
theorem sc_Answerer_outputs : FnScope ["self"] ["self"] (defScope s_Answerer_outputs) := ⟨rfl, rfl, rfl, by decide +kernel, rfl, by decide +kernel, by decide +kernel⟩
abbrev s_Answerer_begin : Stmt := inClass (top 39) 2
theorem sc_Answerer_begin : FnScope ["self", "layer", "point", "p", "many", "weights", "below", "k"] ["self", "layer", "point"] (defScope s_Answerer_begin) := ⟨rfl, rfl, rfl, by decide +kernel, rfl, by decide +kernel, by decide +kernel⟩
abbrev s_Answerer_turn : Stmt := inClass (top 39) 3
theorem sc_Answerer_turn : FnScope ["self", "column"] ["self"] (defScope s_Answerer_turn) := ⟨rfl, rfl, rfl, by decide +kernel, rfl, by decide +kernel, by decide +kernel⟩
abbrev s_Answerer_first_tables : Stmt := inClass (top 39) 4
theorem sc_Answerer_first_tables : FnScope ["self", "p", "factors", "rest", "a", "b", "c", "x", "y"] ["self"] (defScope s_Answerer_first_tables) := ⟨rfl, rfl, rfl, by decide +kernel, rfl, by decide +kernel, by decide +kernel⟩
abbrev s_Answerer_second_tables : Stmt := inClass (top 39) 5
theorem sc_Answerer_second_tables : FnScope ["self", "value", "p", "weights", "factors", "rest", "a", "b", "c", "x", "y"] ["self", "value"] (defScope s_Answerer_second_tables) := ⟨rfl, rfl, rfl, by decide +kernel, rfl, by decide +kernel, by decide +kernel⟩
abbrev s_Answerer_row_value : Stmt := inClass (top 39) 6
theorem sc_Answerer_row_value : FnScope ["self", "number", "p", "total", "k", "columns", "column"] ["self", "number"] (defScope s_Answerer_row_value) := ⟨rfl, rfl, rfl, by decide +kernel, rfl, by decide +kernel, by decide +kernel⟩
abbrev s_Answerer_column_value : Stmt := inClass (top 39) 7
theorem sc_Answerer_column_value : FnScope ["self", "number", "p", "total", "k"] ["self", "number"] (defScope s_Answerer_column_value) := ⟨rfl, rfl, rfl, by decide +kernel, rfl, by decide +kernel, by decide +kernel⟩
abbrev s_Answerer_poly : Stmt := inClass (top 39) 8
theorem sc_Answerer_poly : FnScope ["self", "number"] ["self"] (defScope s_Answerer_poly) := ⟨rfl, rfl, rfl, by decide +kernel, rfl, by decide +kernel, by decide +kernel⟩
abbrev s_Answerer_throw : Stmt := inClass (top 39) 9
theorem sc_Answerer_throw : FnScope ["self", "number", "p", "column"] ["self", "number"] (defScope s_Answerer_throw) := ⟨rfl, rfl, rfl, by decide +kernel, rfl, by decide +kernel, by decide +kernel⟩
abbrev s_weights_polys : Stmt := top 41
theorem sc_weights_polys : FnScope ["many", "t", "p", "row", "k", "above", "below", "j"] ["many", "t", "p"] (defScope s_weights_polys) := ⟨rfl, rfl, rfl, by decide +kernel, rfl, by decide +kernel, by decide +kernel⟩
abbrev s_value : Stmt := top 43
theorem sc_value : FnScope ["values", "t", "p", "total", "k", "weight"] ["values", "t", "p"] (defScope s_value) := ⟨rfl, rfl, rfl, by decide +kernel, rfl, by decide +kernel, by decide +kernel⟩
abbrev s_Bluffer_init : Stmt := inClass (top 50) 0
theorem sc_Bluffer_init : FnScope ["self", "circuit", "rows", "claimed", "choices"] ["self", "circuit", "rows", "claimed", "choices"] (defScope s_Bluffer_init) := ⟨rfl, rfl, rfl, by decide +kernel, rfl, by decide +kernel, by decide +kernel⟩
abbrev s_Bluffer_outputs : Stmt := inClass (top 50) 1
theorem sc_Bluffer_outputs : FnScope ["self"] ["self"] (defScope s_Bluffer_outputs) := ⟨rfl, rfl, rfl, by decide +kernel, rfl, by decide +kernel, by decide +kernel⟩
abbrev s_Bluffer_choice : Stmt := inClass (top 50) 2
theorem sc_Bluffer_choice : FnScope ["self"] ["self"] (defScope s_Bluffer_choice) := ⟨rfl, rfl, rfl, by decide +kernel, rfl, by decide +kernel, by decide +kernel⟩
abbrev s_Bluffer_begin : Stmt := inClass (top 50) 3
theorem sc_Bluffer_begin : FnScope ["self", "layer", "point"] ["self", "layer", "point"] (defScope s_Bluffer_begin) := ⟨rfl, rfl, rfl, by decide +kernel, rfl, by decide +kernel, by decide +kernel⟩
abbrev s_Bluffer_throw : Stmt := inClass (top 50) 5
theorem sc_Bluffer_throw : FnScope ["self", "number"] ["self", "number"] (defScope s_Bluffer_throw) := ⟨rfl, rfl, rfl, by decide +kernel, rfl, by decide +kernel, by decide +kernel⟩
abbrev s_hopeful : Stmt := top 51
theorem sc_hopeful : FnScope ["lack", "guesses", "degree", "p", "values", "number", "whole", "factor", "product", "guess", "part"] ["lack", "guesses", "degree", "p"] (defScope s_hopeful) := ⟨rfl, rfl, rfl, by decide +kernel, rfl, by decide +kernel, by decide +kernel⟩
abbrev s_Guesser_poly : Stmt := inClass (top 52) 0
theorem sc_Guesser_poly : FnScope ["self", "honest", "lack", "degree", "guesses", "wrong", "k"] ["self"] (defScope s_Guesser_poly) := ⟨rfl, rfl, rfl, by decide +kernel, rfl, by decide +kernel, by decide +kernel⟩
abbrev s__law_stream : Stmt := top 54
theorem sc__law_stream : FnScope ["_law_script", "_law_row", "_law_cell", "_law_seed", "_law_k", "_law_left"] ["_law_script"] (defScope s__law_stream) := ⟨rfl, rfl, rfl, by decide +kernel, rfl, by decide +kernel, by decide +kernel⟩
abbrev s__law_take : Stmt := top 55
theorem sc__law_take : FnScope ["_law_row", "_law_many"] ["_law_row", "_law_many"] (defScope s__law_take) := ⟨rfl, rfl, rfl, by decide +kernel, rfl, by decide +kernel, by decide +kernel⟩
abbrev s__law_gate : Stmt := top 56
theorem sc__law_gate : FnScope ["_law_row", "_law_p", "_law_columns"] ["_law_row", "_law_p", "_law_columns"] (defScope s__law_gate) := ⟨rfl, rfl, rfl, by decide +kernel, rfl, by decide +kernel, by decide +kernel⟩
abbrev s__law_circuit : Stmt := top 57
theorem sc__law_circuit : FnScope ["_law_row", "_law_most", "_law_wide", "_law_p", "_law_many", "_law_widths", "_law_layers", "_law_i", "_law_k"] ["_law_row", "_law_most", "_law_wide"] (defScope s__law_circuit) := ⟨rfl, rfl, rfl, by decide +kernel, rfl, by decide +kernel, by decide +kernel⟩
abbrev s__law_inputs : Stmt := top 58
theorem sc__law_inputs : FnScope ["_law_row", "_law_circuit_here", "_law_bits", "_law_columns", "_law_r", "_law_k"] ["_law_row", "_law_circuit_here", "_law_bits"] (defScope s__law_inputs) := ⟨rfl, rfl, rfl, by decide +kernel, rfl, by decide +kernel, by decide +kernel⟩
abbrev s__law_near : Stmt := top 59
theorem sc__law_near : FnScope ["_law_one", "_law_two", "_law_p", "_law_result", "_law_k"] ["_law_one", "_law_two", "_law_p"] (defScope s__law_near) := ⟨rfl, rfl, rfl, by decide +kernel, rfl, by decide +kernel, by decide +kernel⟩
abbrev s__law_corner : Stmt := top 60
theorem sc__law_corner : FnScope ["_law_k", "_law_dims", "_law_j"] ["_law_k", "_law_dims"] (defScope s__law_corner) := ⟨rfl, rfl, rfl, by decide +kernel, rfl, by decide +kernel, by decide +kernel⟩
abbrev s__law_value : Stmt := top 61
theorem sc__law_value : FnScope ["_law_table", "_law_point", "_law_p", "_law_total", "_law_k"] ["_law_table", "_law_point", "_law_p"] (defScope s__law_value) := ⟨rfl, rfl, rfl, by decide +kernel, rfl, by decide +kernel, by decide +kernel⟩
abbrev s__law_at : Stmt := top 63
theorem sc__law_at : FnScope ["_law_values", "_law_t", "_law_p", "_law_total", "_law_k", "_law_above", "_law_below", "_law_j"] ["_law_values", "_law_t", "_law_p"] (defScope s__law_at) := ⟨rfl, rfl, rfl, by decide +kernel, rfl, by decide +kernel, by decide +kernel⟩
abbrev s_law : Stmt := top 64
theorem sc_law : FnScope ["_law_script", "_law_row", "_law_circuit_here", "_law_bits", "_law_p", "_law_rows", "_law_honest", "_law_claimed", "_law_many", "_law_guesses", "_law_guesser", "_law_point", "_law_claim", "_law_at_here", "_law_k", "_law_degree", "_law_mine", "_law_told", "_law_due", "_law_lack", "_law_number", "_law_part"] ["_law_script"] (defScope s_law) := ⟨rfl, rfl, rfl, by decide +kernel, rfl, by decide +kernel, by decide +kernel⟩
def flT : String → List String := fun f => if f = "wide" then ["Answerer"] else if f = "used" then ["Bluffer", "Guesser"] else if f = "throws" then ["Bluffer", "Guesser"] else if f = "tables" then ["Answerer"] else if f = "steps" then ["Answerer"] else if f = "share" then ["Answerer"] else if f = "sent" then ["Bluffer", "Guesser"] else if f = "second" then ["Answerer"] else if f = "round" then ["Answerer"] else if f = "rest" then ["Answerer"] else if f = "point" then ["Bluffer", "Guesser"] else if f = "p" then ["Answerer", "Bluffer", "Guesser"] else if f = "near" then ["Answerer"] else if f = "left" then ["Answerer"] else if f = "layer" then ["Answerer", "Bluffer", "Guesser"] else if f = "honest" then ["Bluffer", "Guesser"] else if f = "gates" then ["Answerer"] else if f = "first" then ["Answerer"] else if f = "factors" then ["Answerer"] else if f = "columns" then ["Answerer"] else if f = "claimed" then ["Bluffer", "Guesser"] else if f = "claim" then ["Bluffer", "Guesser"] else if f = "circuit" then ["Answerer", "Bluffer", "Guesser"] else if f = "choices" then ["Bluffer", "Guesser"] else if f = "bits" then ["Answerer", "Bluffer", "Guesser"] else if f = "below" then ["Answerer"] else []
theorem fl_Answerer : Fl_Answerer flT := by constructor <;> decide
theorem fl_BG : Fl_BG flT := by constructor <;> decide
/- law: slots 0=_law_script 1=_law_row 2=_law_circuit_here 3=_law_bits 4=_law_p 5=_law_rows 6=_law_honest 7=_law_claimed 8=_law_many 9=_law_guesses 10=_law_guesser 11=_law_point 12=_law_claim 13=_law_at_here 14=_law_k 15=_law_degree 16=_law_mine 17=_law_told 18=_law_due 19=_law_lack 20=_law_number 21=_law_part -/
def W_law : DS := dSeq (dSet 1 (dCall 1 C_stream (dCons (dVar 0) (dNil)))) (dSeq (dSet 2 (dCall 3 C__law_circuit (dCons (dVar 1) (dCons (dC (.int 2)) (dCons (dC (.int 2)) (dNil)))))) (dSeq (dSet 3 (dCall 2 C_take (dCons (dVar 1) (dCons (dC (.int 2)) (dNil))))) (dSeq (dSet 4 (dOp oIx (dVar 2) (dC (.int 1)))) (dSeq (dSet 5 (dCall 3 C__law_inputs (dCons (dVar 1) (dCons (dVar 2) (dCons (dVar 3) (dNil)))))) (dSeq (dSet 6 (dMake 2 "Answerer" C_Answerer_init (dCons (dVar 2) (dCons (dVar 5) (dNil))))) (dSeq (dSet 7 (dLc (diList (dMeth [("Answerer", C_Answerer_outputs)] "outputs" 0 (dVar 6) dNil)) (dgName 21) (dYes) (dCall 2 C_take (dCons (dVar 1) (dCons (dVar 4) (dNil)))) [21])) (dSeq (dSet 8 (dOp oAdd (dVar 3) (dOp oMul (dC (.int 2)) (dOp oIx (dOp oIx (dVar 2) (dC (.int 2))) (dC (.int 1)))))) (dSeq (dSet 9 (dLc (diRng1 (dCons (dOp oAdd (dOp oMul (dC (.int 3)) (dVar 3)) (dOp oMul (dC (.int 4)) (dOp oIx (dOp oIx (dVar 2) (dC (.int 2))) (dC (.int 1))))) (dNil))) (dgName 14) (dYes) (dCall 2 C_take (dCons (dVar 1) (dCons (dVar 4) (dNil)))) [14])) (dSeq (dSet 10 (dMake 4 "Guesser" C_Bluffer_init__g (dCons (dVar 2) (dCons (dVar 5) (dCons (dVar 7) (dCons (dVar 9) (dNil))))))) (dSeq (dSet 11 (dLc (diRng1 (dCons (dOp oAdd (dVar 3) (dOp oIx (dOp oIx (dVar 2) (dC (.int 2))) (dC (.int 0)))) (dNil))) (dgName 14) (dYes) (dCall 2 C_take (dCons (dVar 1) (dCons (dVar 4) (dNil)))) [14])) (dSeq (dIf (dB (dOp oNe (dMeth [("Guesser", C_Bluffer_outputs__g)] "outputs" 0 (dVar 10) dNil) (dVar 7))) (dRet (dC (.bl false))) (dNext)) (dSeq (dDrop (dMeth [("Guesser", C_Bluffer_begin__g)] "begin" 2 (dVar 10) (dCons (dC (.int 0)) (dCons (dVar 11) (dNil))))) (dSeq (dDrop (dMeth [("Answerer", C_Answerer_begin)] "begin" 2 (dVar 6) (dCons (dC (.int 0)) (dCons (dVar 11) (dNil))))) (dSeq (dSet 12 (dCall 3 C__law_value__2 (dCons (dVar 7) (dCons (dVar 11) (dCons (dVar 4) (dNil)))))) (dSeq (dSet 13 (dC (.int 0))) (dSeq (dFor (diRng1 (dCons (dVar 8) (dNil))) (dgName 14) (dSeq (dSet 15 (dIfE (dB (dOp oLt (dVar 14) (dVar 3))) (dC (.int 3)) (dC (.int 2)))) (dSeq (dSet 16 (dSl (dVar 9) (dpS (dVar 13)) (dpS (dOp oAdd (dVar 13) (dVar 15))))) (dSeq (dSet 13 (dOp oAdd (dVar 13) (dVar 15))) (dSeq (dSet 17 (dMeth [("Guesser", C_Guesser_poly)] "poly" 0 (dVar 10) dNil)) (dSeq (dSet 18 (dMeth [("Answerer", C_Answerer_poly)] "poly" 0 (dVar 6) dNil)) (dSeq (dSet 19 (dOp oMod (dCB cInt (dCons (dOp oSub (dOp oSub (dVar 12) (dOp oIx (dVar 18) (dC (.int 0)))) (dOp oIx (dVar 18) (dC (.int 1)))) (dNil))) (dVar 4))) (dSeq (dIf (dOr (dB (dOp oNe (dCB cLen (dCons (dVar 17) (dNil))) (dOp oAdd (dVar 15) (dC (.int 1))))) (dB (dOp oNe (dOp oMod (dCB cInt (dCons (dOp oSub (dOp oAdd (dOp oIx (dVar 17) (dC (.int 0))) (dOp oIx (dVar 17) (dC (.int 1)))) (dVar 12)) (dNil))) (dVar 4)) (dC (.int 0))))) (dRet (dC (.bl false))) (dNext)) (dSeq (dIf (dAnd (dB (dOp oEq (dVar 19) (dC (.int 0)))) (dB (dOp oNe (dVar 17) (dVar 18)))) (dRet (dC (.bl false))) (dNext)) (dSeq (dSet 20 (dOp oIx (dVar 16) (dCall 2 C_take (dCons (dVar 1) (dCons (dVar 15) (dNil)))))) (dSeq (dIf (dB (dOp oEq (dCall 2 C_take (dCons (dVar 1) (dCons (dC (.int 2)) (dNil)))) (dC (.int 0)))) (dSet 20 (dCall 2 C_take (dCons (dVar 1) (dCons (dVar 4) (dNil))))) (dNext)) (dSeq (dSet 12 (dCall 3 C__law_at__2 (dCons (dVar 17) (dCons (dVar 20) (dCons (dVar 4) (dNil)))))) (dSeq (dIf (dAnd (dB (dOp (oInL false) (dVar 20) (dVar 16))) (dAnd (dB (dOp oNotN (dCall 4 C_hopeful (dCons (dVar 19) (dCons (dVar 16) (dCons (dVar 15) (dCons (dVar 4) (dNil)))))) (dC .non))) (dB (dOp oNe (dVar 12) (dCall 3 C__law_at__2 (dCons (dVar 18) (dCons (dVar 20) (dCons (dVar 4) (dNil))))))))) (dRet (dC (.bl false))) (dNext)) (dSeq (dDrop (dMeth [("Guesser", C_Bluffer_throw__g)] "throw" 1 (dVar 10) (dCons (dVar 20) (dNil)))) (dDrop (dMeth [("Answerer", C_Answerer_throw)] "throw" 1 (dVar 6) (dCons (dVar 20) (dNil)))))))))))))))))) (dRet (dC (.bl true)))))))))))))))))))
theorem all2_lenG {α : Type} {P : α → Int → Prop} {xs : List α} {ys : List Int} (h : All2 P xs ys) : ys.length = xs.length := by
  induction h with
  | nil => rfl
  | cons _ _ ih => rw [List.length_cons, List.length_cons, ih]
theorem all2_memG {α : Type} {P : Int → Prop} {xs : List α} {ys : List Int} (h : All2 (fun _ y => P y) xs ys) : ∀ y ∈ ys, P y := by
  induction h with
  | nil => intro y hy; cases hy
  | cons h _ ih =>
    intro y hy
    rcases List.mem_cons.mp hy with rfl | hy
    · exact h
    · exact ih y hy
theorem polyF_in {s : AS} (hp : 2 ≤ s.c.p) : InP s.c.p (polyF s) := fun x hx => by
  unfold polyF at hx
  split at hx
  · obtain ⟨_, _, rfl⟩ := List.mem_map.mp hx
    exact mod_in hp
  · obtain ⟨_, _, rfl⟩ := List.mem_map.mp hx
    exact mod_in hp
theorem gi_mapI {xs : List Int} {f : Int → Int} {i : Nat} (h : i < xs.length) : gi (xs.map f) (i : Nat) = f (gi xs (i : Nat)) := by
  rw [gi_nat, gi_nat, List.getD_eq_getElem?_getD, List.getD_eq_getElem?_getD, List.getElem?_map, List.getElem?_eq_getElem h]; rfl
theorem va_at {cs vs : List Int} {p : Int} {n i : Nat} (e : vals cs n p = vs) (h : i < n) : gi vs (i : Nat) = pev cs (i : Nat) % p := by
  rw [← e]; exact gi_mapr h
theorem rd_law : ∀ ds m Φ Ψ, ds.length = 1 → CLaw ClawT ds m Φ Ψ → W_law { nx := fun _ m' => Φ .non m', rt := Φ } (fun _ => Ψ) (ds.map some ++ List.replicate (22 - ds.length) none) m := by
  intro ds m Φ Ψ _ h
  obtain ⟨ns, rfl, hlen, rfl, q⟩ := h
  change W_law _ _ [some (.rol (ns.map D.int)), none, none, none, none, none, none, none, none, none, none, none, none, none, none, none, none, none, none, none, none, none] _
  unfold W_law
  walk_at "stp"
  refine ⟨⟨ns, rfl, by omega⟩, rfl, ?_⟩
  walk_at "nxt"
  refine ⟨2, 2, rfl, rfl, by decide, by decide, by decide, fun c hc h5 h53 => ?_⟩
  have hwl := hc.wl
  have hl1 := hc.l1
  have hl0 := hc.l0
  have hp1 := hc.pm.1
  have ecD : cD c = .tup [.str (PySem.Str.ofString "circuit"), .int c.p, .lst (c.ws.map D.int), .lst (c.ls.map lD)] := rfl
  walk_at "nxt"
  refine ⟨2, rfl, rfl, by decide, by decide, fun b b0 b3 => ?_⟩
  obtain ⟨b, rfl⟩ := Int.eq_ofNat_of_zero_le b0
  have b8 : (2 : Nat) ^ b ≤ 2 ^ 3 := Nat.pow_le_pow_right (by decide) (by omega)
  walk_at "nxt"
  rw [ecD]
  walk_at "dx"
  refine ⟨.int c.p, rfl, ?_⟩
  rw [← ecD]
  walk_at "nxt"
  refine ⟨c, 2, 2, b, rfl, rfl, hc, by decide, by omega, fun R hR hr => ?_⟩
  walk_at "nxt"
  refine ⟨0, c, 2, 2, b, R, rfl, rfl, hc, by decide, by decide, by omega, hR, hr, fun fs a0 => ⟨rfl, ?_⟩⟩
  have bs := b0_s0 hc (by decide) (by decide) (show b ≤ 3 by omega) hR hr
  have sc : (s0 c R b).c = c := rfl
  have sb : (s0 c R b).b = b := rfl
  have sT : (s0 c R b).T = tables c R := rfl
  have tl : (tables c R).length = c.ls.length + 1 := tables_len
  have wz : ∀ i ≤ c.ls.length, ((wN c i : Nat) : Int) = gi c.ws (i : Nat) ∧ wN c i ≤ 2 := fun i hi => by
    have := hc.w0 _ (gi_mem (show i < c.ws.length by omega))
    have e := wN_eq hc hi
    omega
  have tin : ∀ i ≤ c.ls.length, InP c.p ((tables c R).getD i []) ∧ ((tables c R).getD i []).length = 2 ^ b * 2 ^ wN c i := fun i hi => by
    have z := bs.t i hi
    rw [sT, sc, sb] at z
    exact ⟨z.1, by rw [z.2, Nat.mul_comm]; rfl⟩
  have hs : ∃ s, s = s0 c R b := ⟨_, rfl⟩
  walk_at "nxt"
  rw [show (([] : List MO) ++ [MO.ins "Answerer" []]).set 0 (MO.ins "Answerer" fs) = [MO.ins "Answerer" fs] from rfl]
  walk_at "dx"
  refine ⟨notkey a0.k (by decide), 0, fs, s0 c R b, rfl, rfl, a0, by rw [sT, tl]; omega, ?_⟩
  rw [sT]
  have tkp : ∀ (α : Type) (inj : α → D) (j : Nat) (xs : List α), j ≠ 1 → j ≠ 4 → xs.length ≤ 1000 → ∀ (ρ : Dl.Env) (m : MM) (Φ : D → MM → Prop), m.s = 1 → ρ[1]? = some (some (.st 1)) → ρ[4]? = some (some (.int c.p)) → (∀ ws : List Int, ws.length = xs.length → InP c.p ws → Φ (.lst (ws.map D.int)) m) → lcW (dgName j) dYes (dCall 2 C_take (dCons (dVar 1) (dCons (dVar 4) dNil))) ρ Φ (xs.map inj) [] m := by
    intro α inj j xs j1 j4 hn ρ m Φ ms r0 r3 hΦ
    refine lcW_any (out := D.int) (fun _ y => 0 ≤ y ∧ y < c.p) m ?_ (fun _ => rfl) xs [] (by rw [List.length_nil]; show _ ≤ 16777216; omega) fun ws hw => hΦ ws (all2_lenG hw) (fun y hy => all2_memG (P := fun y => 0 ≤ y ∧ y < c.p) hw y hy)
    intro x m2 Θ hs2 hΘ
    have e0 : (ρ.set j (some (inj x)))[1]? = some (some (.st 1)) := by rw [List.getElem?_set_ne j1]; exact r0
    have e3 : (ρ.set j (some (inj x)))[4]? = some (some (.int c.p)) := by rw [List.getElem?_set_ne j4]; exact r3
    walk_at "dx"
    rw [e0, e3]
    walk_at "dx"
    exact ⟨c.p, rfl, hs2.trans ms, by omega, by omega, fun r r0 r1 => hΘ r ⟨r0, r1⟩⟩
  have t0l := (tin 0 (by omega)).2
  have w0 := wz 0 (by omega)
  have w1 := wz 1 (by omega)
  have p0 : (2 : Nat) ^ wN c 0 ≤ 2 ^ 2 := Nat.pow_le_pow_right (by decide) w0.2
  have t0b : ((tables c R).getD 0 []).length ≤ 1000 := by
    rw [t0l]
    exact Nat.le_trans (Nat.mul_le_mul b8 p0) (by decide)
  rw [show intL ((tables c R).getD 0 []) = .lst (((tables c R).getD 0 []).map D.int) from rfl]
  walk_at "dx"
  refine tkp Int D.int 21 _ (by decide) (by decide) t0b _ _ _ rfl rfl rfl fun cl cll clin => ?_
  walk_at "nxt"
  rw [ecD]
  walk_at "dx"
  refine ⟨.lst (c.ws.map D.int), rfl, ?_⟩
  walk_at "dx"
  refine ⟨.int (gi c.ws ((1 : Nat) : Int)), atI_gi (by omega) (by omega), mulL (by decide) (by decide), ?_⟩
  walk_at "dx"
  obtain ⟨w, hw⟩ : ∃ w, w = wN c 1 := ⟨_, rfl⟩
  rw [← hw] at w1
  rw [← w1.1, ← ecD, show ((b : Nat) : Int) + 2 * ((w : Nat) : Int) = ((b + 2 * w : Nat) : Int) by omega]
  walk_at "nxt"
  rw [ecD]
  walk_at "dx"
  refine ⟨mulL (by decide) (by decide), .lst (c.ws.map D.int), rfl, ?_⟩
  walk_at "dx"
  refine ⟨.int (gi c.ws ((1 : Nat) : Int)), atI_gi (by omega) (by omega), mulL (by decide) (by decide), ?_⟩
  walk_at "dx"
  rw [← w1.1, ← ecD, show 3 * ((b : Nat) : Int) + 4 * ((w : Nat) : Int) = ((3 * b + 4 * w : Nat) : Int) by omega]
  refine ⟨⟨by omega, by omega⟩, ?_⟩
  rw [rngD0, Int.toNat_natCast]
  refine tkp Nat (fun i : Nat => D.int (i : Nat)) 14 _ (by decide) (by decide) (by rw [List.length_range]; omega) _ _ _ rfl rfl rfl fun ch chl chin => ?_
  rw [List.length_range] at chl
  walk_at "nxt"
  refine ⟨"Guesser", .inr rfl, 1, c, 2, 2, b, R, cl, ch, rfl, rfl, hc, by decide, by decide, by omega, hR, hr, fun fb fi bf ai => ⟨rfl, ?_⟩⟩
  have bf : BF fb 2 _ := bf
  change k1 _ ⟨[MO.ins "Answerer" fs, MO.ins "Guesser" fb, MO.ins "Answerer" fi], 1⟩
  rw [show (0 + 1 : Nat) = 1 from rfl]
  walk_at "nxt"
  rw [ecD]
  walk_at "dx"
  refine ⟨.lst (c.ws.map D.int), rfl, ?_⟩
  walk_at "dx"
  refine ⟨.int (gi c.ws ((0 : Nat) : Int)), atI_gi (by omega) (by omega), ?_⟩
  walk_at "dx"
  rw [← w0.1, ← ecD, show ((b : Nat) : Int) + ((wN c 0 : Nat) : Int) = ((b + wN c 0 : Nat) : Int) by omega]
  refine ⟨⟨by omega, by omega⟩, ?_⟩
  rw [rngD0, Int.toNat_natCast]
  refine tkp Nat (fun i : Nat => D.int (i : Nat)) 14 _ (by decide) (by decide) (by rw [List.length_range]; omega) _ _ _ rfl rfl rfl fun g gl gin => ?_
  rw [List.length_range] at gl
  walk_at "nxt"
  refine ⟨notkey bf.k (by decide), "Guesser", .inr rfl, 1, 2, fb, _, rfl, rfl, bf, ?_⟩
  walk_at "dx"
  rw [eqD_ints]
  refine ⟨okE_ints, okE_ints, ?_⟩
  rw [decide_eq_true rfl, if_neg (by decide)]
  walk_at "nxt"
  have glen : (g.length : Int) = (s0 c R b).b + gi (s0 c R b).c.ws ((0 : Nat) : Int) := by rw [sc, sb, ← w0.1]; omega
  have hbeg : 0 < (s0 c R b).c.ls.length := by rw [sc]; omega
  refine ⟨notkey bf.k (by decide), "Guesser", .inr rfl, 1, 2, fb, fi, _, 0, 2, 2, g, rfl, rfl, rfl, bf, ai, bs, hbeg, gin, glen, fun _ => ⟨clin, by rw [gl]; show cl.length = _; rw [cll, t0l, Nat.pow_add]⟩, fun fb2 fi2 bf2 ai2 => ?_⟩
  rw [show ([MO.ins "Answerer" fs, MO.ins "Guesser" fb, MO.ins "Answerer" fi].set 1 (MO.ins "Guesser" fb2)).set 2 (MO.ins "Answerer" fi2) = [MO.ins "Answerer" fs, MO.ins "Guesser" fb2, MO.ins "Answerer" fi2] from rfl]
  walk_at "nxt"
  refine ⟨notkey a0.k (by decide), 0, fs, s0 c R b, 0, 2, 2, g, rfl, rfl, a0, bs, hbeg, gin, glen, fun fs2 ok2 => ?_⟩
  rw [show [MO.ins "Answerer" fs, MO.ins "Guesser" fb2, MO.ins "Answerer" fi2].set 0 (MO.ins "Answerer" fs2) = [MO.ins "Answerer" fs2, MO.ins "Guesser" fb2, MO.ins "Answerer" fi2] from rfl]
  walk_at "nxt"
  refine ⟨cl, g, c.p, rfl, hc.pm, clin, gin, by rw [gl, cll, t0l, Nat.pow_add], by omega, ?_⟩
  have ecl : valAt cl g c.p = mle cl g % c.p := valAt_mle (by rw [gl, cll, t0l, Nat.pow_add])
  rw [← ecl]
  walk_at "nxt"
  walk_at "nxt"
  refine ⟨⟨by omega, by omega⟩, ?_⟩
  rw [rngD0, Int.toNat_natCast]
  have wd : (beginF (s0 c R b) 0 g).wide = w := by rw [(begin_r (s0 c R b) 0 g).2, sc, hw]; rfl
  have fx := fix_begin (s0 c R b) 0 g
  have vin : 0 ≤ valAt cl g c.p ∧ valAt cl g c.p < c.p := by unfold valAt; exact mod_in hp1
  refine forW_nat (fun k ρ m' => ∃ (t : BS) (fa fb fi : List (String × D)) (u : Nat) (v14 v15 v16 v17 v18 v19 v20 v21 : Option D), BF1 fb 2 t ∧ AnsOK fi t.s ∧ AnsOK fa t.s ∧ t.s.c = c ∧ t.s.b = b ∧ t.s.wide = w ∧ t.s.round = k ∧ t.ch = ch ∧ t.used = u ∧ (u = if k ≤ b then 3 * k else 3 * b + 2 * (k - b)) ∧ t.throws.length = k ∧ 0 ≤ t.claim ∧ t.claim < c.p ∧
    ρ = [some (D.rol (List.map D.int ns)), some (D.st 1), some (cD c), some (D.int (b : Nat)), some (D.int c.p), some (D.lst (List.map intL R)), some (D.hnd 0), some (D.lst (List.map D.int cl)), some (D.int (b + 2 * w : Nat)), some (D.lst (List.map D.int ch)), some (D.hnd 1), some (.lst (g.map D.int)), some (.int t.claim), some (.int (u : Nat)), v14, v15, v16, v17, v18, v19, v20, v21] ∧ m' = ⟨[MO.ins "Answerer" fa, MO.ins "Guesser" fb, MO.ins "Answerer" fi], 1⟩) ?_ ?_ ⟨_, fs2, fb2, fi2, 0, none, none, none, none, none, none, none, none, bf2, ai2, ok2, fx.c, fx.b, wd, (begin_r (s0 c R b) 0 g).1, rfl, rfl, by rw [if_pos (by omega)], rfl, vin.1, vin.2, rfl, rfl⟩
  · rintro k kk hk hkk ρ m' ⟨t, fa, fb, fi, u, v14, v15, v16, v17, v18, v19, v20, v21, bft, okt, oka, sct, sbt, swt, rt, tch, tu, hu, tthl, cl0, cl1, rfl, rfl⟩
    clear h1
    have pl := polyF_len (s := t.s)
    obtain ⟨d, hd⟩ : ∃ d, d = if k < b then 3 else 2 := ⟨_, rfl⟩
    have pld : (polyF t.s).length = d + 1 := by rw [pl, rt, sbt, hd]; split <;> rfl
    have d23 : 2 ≤ d ∧ d ≤ 3 := by rw [hd]; split <;> omega
    have ud : u + d ≤ ch.length ∧ (u + d = if k + 1 ≤ b then 3 * (k + 1) else 3 * b + 2 * (k + 1 - b)) := by
      rw [chl]
      by_cases e : k < b
      · rw [if_pos e] at hd
        rw [if_pos (by omega)] at hu
        rw [if_pos (by omega)]
        omega
      · rw [if_neg e] at hd
        rw [if_neg (by omega)]
        by_cases e2 : k ≤ b
        · rw [if_pos e2] at hu; omega
        · rw [if_neg e2] at hu; omega
    obtain ⟨mi, hmi⟩ : ∃ mi, mi = (ch.drop u).take d := ⟨_, rfl⟩
    have mil : mi.length = d := by rw [hmi, List.length_take, List.length_drop]; omega
    have miin : InP c.p mi := fun x hx => by rw [hmi] at hx; exact chin x (List.mem_of_mem_drop (List.mem_of_mem_take hx))
    have egs : guS t (polyF t.s) = mi := by
      unfold guS
      rw [pld, Nat.add_sub_cancel, tu, tch, sct]
      refine List.ext_getElem (by rw [List.length_map, List.length_range, mil]) fun i h1 h2 => ?_
      have hi : i < d := by rw [mil] at h2; exact h2
      have hlt : u + i < ch.length := by omega
      have e1 : ((List.range d).map fun i : Nat => chF ch c.p (u + i))[i] = chF ch c.p (u + i) := by simp
      have e2 : mi[i] = ch[u + i] := by simp [hmi]
      have e3 : gi ch ((u + i : Nat) : Int) = ch[u + i] := by rw [gi_nat, List.getD_eq_getElem?_getD, List.getElem?_eq_getElem hlt]; rfl
      have z := chin ch[u + i] (List.getElem_mem hlt)
      rw [e1, e2]
      unfold chF
      rw [if_pos hlt, e3, Int.emod_eq_of_lt z.1 z.2]
    walk_at "stp"
    have eif : ∀ K : Int → Prop, K (d : Nat) → (if ((k : Nat) : Int) < (b : Nat) then K 3 else K 2) := fun K hK => by
      rw [hd] at hK
      by_cases e : k < b
      · rw [if_pos (by omega)]; rw [if_pos e] at hK; exact hK
      · rw [if_neg (by omega)]; rw [if_neg e] at hK; exact hK
    refine eif (fun d => k1 [some (D.rol (List.map D.int ns)), some (D.st 1), some (cD c), some (D.int (b : Nat)), some (D.int c.p), some (D.lst (List.map intL R)), some (D.hnd 0), some (D.lst (List.map D.int cl)), some (D.int (b + 2 * w : Nat)), some (D.lst (List.map D.int ch)), some (D.hnd 1), some (.lst (g.map D.int)), some (.int t.claim), some (.int (u : Nat)), some (.int (k : Nat)), some (.int d), v16, v17, v18, v19, v20, v21] ⟨[MO.ins "Answerer" fa, MO.ins "Guesser" fb, MO.ins "Answerer" fi], 1⟩) ?_
    walk_at "nxt"
    rw [show ((u : Nat) : Int) + ((d : Nat) : Int) = ((u + d : Nat) : Int) by omega, cutRM, ← List.map_drop, ← List.map_take, show u + d - u = d by omega, ← hmi]
    walk_at "nxt"
    rw [show ((u : Nat) : Int) + ((d : Nat) : Int) = ((u + d : Nat) : Int) by omega]
    walk_at "nxt"
    refine ⟨notkey bft.k (by decide), 1, 2, fb, fi, t, rfl, rfl, rfl, bft, okt, by rw [sct]; exact hc.pr, by omega, cl0, by rw [sct]; exact cl1, fun fb3 fi3 S hS bf3 hse ok3 => ?_⟩
    rw [show ([MO.ins "Answerer" fa, MO.ins "Guesser" fb, MO.ins "Answerer" fi].set 1 (MO.ins "Guesser" fb3)).set 2 (MO.ins "Answerer" fi3) = [MO.ins "Answerer" fa, MO.ins "Guesser" fb3, MO.ins "Answerer" fi3] from rfl]
    walk_at "nxt"
    refine ⟨notkey oka.a0.k (by decide), 0, fa, t.s, rfl, rfl, oka.a1, oka.v1, oka.two, by omega, ?_⟩
    have ok4 := oka.poly
    rw [show [MO.ins "Answerer" fa, MO.ins "Guesser" fb3, MO.ins "Answerer" fi3].set 0 (stD (polyS t.s).steps fa) = [MO.ins "Answerer" (putD "steps" (.int (polyS t.s).steps) fa), MO.ins "Guesser" fb3, MO.ins "Answerer" fi3] from rfl]
    generalize putD "steps" (.int (polyS t.s).steps) fa = fa3 at ok4 ⊢
    have min := polyF_in (s := t.s) (by rw [sct]; exact hp1)
    obtain ⟨DD, DDl, eS, hD⟩ := hS
    dsimp only at hD
    rw [egs] at hD
    rw [sct] at min hD eS
    have pus : (gPoly t S).used = u + d := by show t.used + ((polyF t.s).length - 1) = _; rw [pld, tu, Nat.add_sub_cancel]
    generalize polyF t.s = Mn at *
    have Sl : S.length = d + 1 := by rw [eS, List.length_map, List.length_range, pld]
    have sin : InP c.p S := fun x hx => by
      rw [eS] at hx
      obtain ⟨_, _, rfl⟩ := List.mem_map.mp hx
      exact mod_in hp1
    have gS : ∀ i < d + 1, gi S (i : Nat) = (gi Mn (i : Nat) + gi DD (i : Nat)) % c.p := fun i hi => by rw [eS]; exact gi_mapr (by omega)
    walk_at "nxt"
    refine ⟨_, atI_gi (by decide) (by omega), _, atI_gi (by decide) (by omega), ?_⟩
    walk_at "dx"
    refine ⟨by omega, ?_⟩
    obtain ⟨lack, hlack⟩ : ∃ lack, lack = (t.claim - gi Mn 0 - gi Mn 1) % c.p := ⟨_, rfl⟩
    have lin := mod_in (p := c.p) hp1 (z := t.claim - gi Mn 0 - gi Mn 1)
    rw [← hlack] at hD lin ⊢
    have repl : ∀ i : Nat, gi (List.replicate Mn.length (0 : Int)) (i : Nat) = 0 := fun i => by
      rw [gi_nat, List.getD_eq_getElem?_getD, List.getElem?_replicate]
      split <;> rfl
    have D1 : ∀ i : Nat, i < d + 1 → (whole mi c.p = 0 → gi DD (i : Nat) = if i = 1 then lack else 0) := fun i hi hz => by
      rcases hD with ⟨_, e⟩ | ⟨e, _⟩
      · rw [e, gi_nat, List.getD_eq_getElem?_getD, List.getElem?_set]
        by_cases e1 : 1 = i
        · rw [if_pos e1, if_pos (by rw [List.length_replicate]; omega), if_pos e1.symm]; rfl
        · rw [if_neg e1, if_neg (fun e => e1 e.symm)]
          have := repl i
          rw [gi_nat, List.getD_eq_getElem?_getD] at this
          exact this
      · exact absurd hz e
    have sumD : Cg c.p (gi DD 0 + gi DD 1) lack := by
      rcases hD with ⟨hz, _⟩ | ⟨hz, f, f0, f1, hf, e⟩
      · have a0 := D1 0 (by omega) hz
        have a1 := D1 1 (by omega) hz
        rw [if_neg (by decide)] at a0
        rw [if_pos rfl] at a1
        exact .of_eq (by rw [show gi DD 0 = 0 from a0, show gi DD 1 = lack from a1]; omega)
      · have p0 : gi DD 0 = prV mi c.p 0 * f % c.p := by
          rw [e]; exact (gi_mapI (xs := prods mi c.p Mn.length) (f := fun v => v * f % c.p) (i := 0) (by rw [prods_len]; omega)).trans (by rw [prods_at (by omega)]; rfl)
        have p1 : gi DD 1 = prV mi c.p 1 * f % c.p := by
          rw [e]; exact (gi_mapI (xs := prods mi c.p Mn.length) (f := fun v => v * f % c.p) (i := 1) (by rw [prods_len]; omega)).trans (by rw [prods_at (by omega)]; rfl)
        rw [p0, p1]
        refine (Cg.add Cg.mod Cg.mod).trans (Cg.trans (b := f * (prV mi c.p 0 + prV mi c.p 1)) (.of_eq (by grind)) ?_)
        exact (Cg.mul .refl Cg.mod.symm).trans hf
    have g0 := gS 0 (by omega)
    have g1 := gS 1 (by omega)
    have sum0 : (gi S 0 + gi S 1 - t.claim) % c.p = 0 := by
      have z : Cg c.p (gi S 0 + gi S 1 - t.claim) 0 := by
        rw [show gi S 0 = (gi Mn 0 + gi DD 0) % c.p from g0, show gi S 1 = (gi Mn 1 + gi DD 1) % c.p from g1]
        refine (Cg.sub (Cg.add Cg.mod Cg.mod) .refl).trans (Cg.trans (b := gi Mn 0 + gi Mn 1 + (gi DD 0 + gi DD 1) - t.claim) (.of_eq (by omega)) ?_)
        refine (Cg.sub (Cg.add .refl sumD) .refl).trans ?_
        rw [hlack]
        exact (Cg.sub (Cg.add .refl .mod) .refl).trans (.of_eq (by omega))
      unfold Cg at z
      rw [z, Int.zero_emod]
    have same0 : lack = 0 → S = Mn := fun hl => by
      have dz : ∀ i < d + 1, Cg c.p (gi DD (i : Nat)) 0 := fun i hi => by
        rcases hD with ⟨hz, _⟩ | ⟨hz, f, f0, f1, hf, e⟩
        · rw [D1 i hi hz, hl]
          split <;> exact .refl
        · rw [hl] at hf
          have fz : f = 0 := by
            rcases hc.pr.mul_zero hf with z | z
            · exact Cg.eq z ⟨f0, f1⟩ ⟨by omega, by omega⟩
            · exact absurd (Cg.eq z (mod_in hp1) ⟨by omega, by omega⟩) hz
          rw [e, (gi_mapI (xs := prods mi c.p Mn.length) (f := fun v => v * f % c.p) (i := i) (by rw [prods_len]; omega)), fz, Int.mul_zero, Int.zero_emod]
          exact .refl
      refine List.ext_getElem (by omega) fun i h1 h2 => ?_
      have a := gS i (by omega)
      have z := Cg.trans (Cg.add (Cg.refl (p := c.p) (a := gi Mn (i : Nat))) (dz i (by omega))) (.of_eq (Int.add_zero _))
      unfold Cg at z
      have mr := min.gN (i := i) (by omega)
      rw [z, Int.emod_eq_of_lt mr.1 mr.2, gi_nat, gi_nat, List.getD_eq_getElem?_getD, List.getD_eq_getElem?_getD, List.getElem?_eq_getElem h1, List.getElem?_eq_getElem h2] at a
      exact a
    have dp : ((d + 1 : Nat) : Int) ≤ c.p := by omega
    have agree : whole mi c.p ≠ 0 → ∀ z : Int, 0 ≤ z → z ∈ mi → valV S z c.p = valV Mn z c.p := fun hw z z0 hz => by
      rcases hD with ⟨e, _⟩ | ⟨_, f, f0, f1, hf, e⟩
      · exact absurd e hw
      obtain ⟨cs, c1, c2⟩ := interp hc.pr hp1 (vs := S) (by omega) (by omega) sin
      obtain ⟨os, o1, o2⟩ := interp hc.pr hp1 (vs := Mn) (by omega) (by omega) min
      have va := valV_pev hc.pr c1 (by omega) (by omega) z0
      have vb := valV_pev hc.pr o1 (by omega) (by omega) z0
      rw [c2] at va
      rw [o2] at vb
      rw [va, vb]
      have key := Pol.extN hc.pr dp (Pol.pev (p := c.p) (n := d) cs (by omega)) ((Pol.pev os (by omega)).add (((prV_pol (p := c.p) (gs := mi)).mono (by omega)).smul f)) (fun i hi => by
        have e1 : gi S (i : Nat) = pev cs (i : Nat) % c.p := va_at c2 (by omega)
        have e2 : gi Mn (i : Nat) = pev os (i : Nat) % c.p := va_at o2 (by omega)
        have e3 := gS i (by omega)
        rw [e, (gi_mapI (xs := prods mi c.p Mn.length) (f := fun v => v * f % c.p) (i := i) (by rw [prods_len]; omega)), prods_at (by omega), e1, e2] at e3
        have z1 : Cg c.p (pev cs (i : Nat)) (pev os (i : Nat) % c.p + prV mi c.p (i : Nat) * f % c.p) := e3
        refine z1.trans (Cg.add Cg.mod (Cg.mod.trans (.of_eq (Int.mul_comm _ _))))) z
      have r0 : Cg c.p (prV mi c.p z) 0 := prF_root mi 1 hz
      exact key.trans ((Cg.add .refl ((Cg.mul .refl r0).trans (.of_eq (Int.mul_zero _)))).trans (.of_eq (Int.add_zero _)))
    walk_at "nxt"
    rw [if_neg (by omega)]
    refine ⟨_, atI_gi (by decide) (by omega), _, atI_gi (by decide) (by omega), ?_⟩
    walk_at "dx"
    refine ⟨by omega, ?_⟩
    rw [sum0, if_neg (by decide)]
    walk_at "nxt"
    have stp2 : k1 [some (D.rol (List.map D.int ns)), some (D.st 1), some (cD c), some (D.int (b : Nat)), some (D.int c.p), some (D.lst (List.map intL R)), some (D.hnd 0), some (D.lst (List.map D.int cl)), some (D.int (b + 2 * w : Nat)), some (D.lst (List.map D.int ch)), some (D.hnd 1), some (.lst (g.map D.int)), some (.int t.claim), some (.int (u + d : Nat)), some (.int (k : Nat)), some (.int (d : Nat)), some (.lst (mi.map D.int)), some (.lst (S.map D.int)), some (.lst (Mn.map D.int)), some (.int lack), v20, v21] ⟨[MO.ins "Answerer" fa3, MO.ins "Guesser" fb3, MO.ins "Answerer" fi3], 1⟩ := by
      walk_at "nxt"
      refine ⟨(d : Nat), rfl, rfl, by omega, by omega, fun y y0 y1 => ?_⟩
      obtain ⟨y, rfl⟩ := Int.eq_ofNat_of_zero_le y0
      walk_at "dx"
      refine ⟨_, atI_gi (by omega) (by omega), ?_⟩
      have yin := miin.gN (i := y) (by omega)
      walk_at "nxt"
      refine ⟨2, rfl, rfl, by decide, by decide, fun y2 _ _ => ?_⟩
      have fin : ∀ z : Int, 0 ≤ z → z < c.p → k1 [some (D.rol (List.map D.int ns)), some (D.st 1), some (cD c), some (D.int (b : Nat)), some (D.int c.p), some (D.lst (List.map intL R)), some (D.hnd 0), some (D.lst (List.map D.int cl)), some (D.int (b + 2 * w : Nat)), some (D.lst (List.map D.int ch)), some (D.hnd 1), some (.lst (g.map D.int)), some (.int t.claim), some (.int (u + d : Nat)), some (.int (k : Nat)), some (.int (d : Nat)), some (.lst (mi.map D.int)), some (.lst (S.map D.int)), some (.lst (Mn.map D.int)), some (.int lack), some (.int z), v21] ⟨[MO.ins "Answerer" fa3, MO.ins "Guesser" fb3, MO.ins "Answerer" fi3], 1⟩ := by
        intro z z0 z1
        walk_at "nxt"
        refine at_val hc.pm hc.pr sin (by omega) (by omega) (by omega) z0 z1 ?_
        have cin : 0 ≤ valV S z c.p ∧ valV S z c.p < c.p := by
          unfold Dl.valV
          split
          · exact sin.gi z0 (by omega)
          · exact mod_in hp1
        walk_at "nxt"
        have fin2 : k1 [some (D.rol (List.map D.int ns)), some (D.st 1), some (cD c), some (D.int (b : Nat)), some (D.int c.p), some (D.lst (List.map intL R)), some (D.hnd 0), some (D.lst (List.map D.int cl)), some (D.int (b + 2 * w : Nat)), some (D.lst (List.map D.int ch)), some (D.hnd 1), some (.lst (g.map D.int)), some (.int (valV S z c.p)), some (.int (u + d : Nat)), some (.int (k : Nat)), some (.int (d : Nat)), some (.lst (mi.map D.int)), some (.lst (S.map D.int)), some (.lst (Mn.map D.int)), some (.int lack), some (.int z), v21] ⟨[MO.ins "Answerer" fa3, MO.ins "Guesser" fb3, MO.ins "Answerer" fi3], 1⟩ := by
          walk_at "nxt"
          refine ⟨notkey bf3.k (by decide), "Guesser", .inr rfl, 1, 2, fb3, fi3, gPoly t S, z, rfl, rfl, rfl, bf3, hse, ok3, by show Prim t.s.c.p; rw [sct]; exact hc.pr, by show InP t.s.c.p S; rw [sct]; exact sin, by show S.length ≤ 1000; omega, by show (S.length : Int) ≤ t.s.c.p; rw [sct]; omega, by show t.throws.length ≤ 1000; omega, z0, by show z < t.s.c.p; rw [sct]; exact z1, fun fb4 fi4 bf4 ok5 => ?_⟩
          rw [show ([MO.ins "Answerer" fa3, MO.ins "Guesser" fb3, MO.ins "Answerer" fi3].set 1 (MO.ins "Guesser" fb4)).set 2 (MO.ins "Answerer" fi4) = [MO.ins "Answerer" fa3, MO.ins "Guesser" fb4, MO.ins "Answerer" fi4] from rfl]
          walk_at "lst"
          refine ⟨notkey ok4.a0.k (by decide), 0, fa3, polyS t.s, z, rfl, rfl, ok4, z0, by show z < t.s.c.p; rw [sct]; exact z1, fun fa4 ok6 => ?_⟩
          rw [show [MO.ins "Answerer" fa3, MO.ins "Guesser" fb4, MO.ins "Answerer" fi4].set 0 (MO.ins "Answerer" fa4) = [MO.ins "Answerer" fa4, MO.ins "Guesser" fb4, MO.ins "Answerer" fi4] from rfl]
          have ev : valV S z c.p = (bThrow (gPoly t S) z).claim := by show _ = valV S z t.s.c.p; rw [sct]
          rw [ev] at cin ⊢
          have tr := throw_r (polyS t.s) z
          refine hkk _ _ ⟨bThrow (gPoly t S) z, fa4, fb4, fi4, u + d, _, _, _, _, _, _, _, _, bf4, ok5, ok6, tr.2.2.c.trans sct, tr.2.2.b.trans sbt, tr.2.1.trans swt, by rw [show (bThrow (gPoly t S) z).s = throwF (polyS t.s) z from rfl, tr.1]; exact congrArg (· + 1) rt, tch, pus, ud.2, by show (t.throws ++ [z]).length = k + 1; rw [List.length_append, tthl]; rfl, cin.1, cin.2, rfl, rfl⟩
        refine ⟨okE_ints, ?_⟩
        rw [memD_ints]
        by_cases ez : z ∈ mi
        · rw [if_pos (decide_eq_true ez)]
          refine ⟨lack, c.p, mi, d, rfl, hc.pm, hc.pr, miin, lin, by omega, by omega, by omega, fun hz => ?_, fun hz f f0 f1 hf => ?_⟩
          · walk_at "dx"
            exact fin2
          · walk_at "dx"
            refine at_val hc.pm hc.pr min (by omega) (by omega) (by omega) z0 z1 ?_
            rw [← agree (fun e => hz (.inr e)) z z0 ez]
            walk_at "dx"
            exact fin2
        · rw [if_neg (by rw [decide_eq_false ez]; decide)]
          exact fin2
      walk_at "dx"
      by_cases e : y2 = 0
      · rw [if_pos e]
        refine ⟨c.p, rfl, rfl, by omega, by omega, fun z z0 z1 => ?_⟩
        walk_at "dx"
        exact fin z z0 z1
      · rw [if_neg e]
        exact fin _ yin.1 yin.2
    by_cases e : lack = 0
    · rw [if_pos e, same0 e, eqD_ints, decide_eq_true rfl]
      refine ⟨okE_ints, okE_ints, ?_⟩
      rw [if_neg (by decide)]
      rw [same0 e] at stp2
      exact stp2
    · rw [if_neg e]
      exact stp2
  · rintro ρ m' ⟨t, fa, fb, fi, u, v14, v15, v16, v17, v18, v19, v20, v21, _, _, _, _, _, _, _, _, _, _, _, _, _, rfl, rfl⟩
    walk_at "lst"
    exact q _

structure Txt (K : PySem.W.Frag) (mg : Str → Option Value) : Prop where
  d_is_prime : DefT K mg "is_prime" s_is_prime ["number"]
  d_check_modulus : DefT K mg "check_modulus" s_check_modulus ["p"]
  d_power : DefT K mg "power" s_power ["base", "exponent", "p"]
  d_inverse : DefT K mg "inverse" s_inverse ["number", "p"]
  d_fits : DefT K mg "fits" s_fits ["thing", "most"]
  d_is_gate : DefT K mg "is_gate" s_is_gate ["gate", "p", "columns"]
  d_is_shaped : DefT K mg "is_shaped" s_is_shaped ["circuit"]
  d_checked : DefT K mg "checked" s_checked ["circuit"]
  d_modulus : DefT K mg "modulus" s_modulus ["circuit"]
  d_depth : DefT K mg "depth" s_depth ["circuit"]
  d_width : DefT K mg "width" s_width ["circuit", "layer"]
  d_row_bits : DefT K mg "row_bits" s_row_bits ["rows"]
  d_checked_rows : DefT K mg "checked_rows" s_checked_rows ["circuit", "rows"]
  d_gate_value : DefT K mg "gate_value" s_gate_value ["gate", "below", "p"]
  d_run_row : DefT K mg "run_row" s_run_row ["circuit", "inputs"]
  d_run : DefT K mg "run" s_run ["circuit", "rows"]
  d_point_table : DefT K mg "point_table" s_point_table ["point", "p"]
  d_value_at : DefT K mg "value_at" s_value_at ["table", "point", "p"]
  d_fold : DefT K mg "fold" s_fold ["table", "number", "p"]
  d_weighted_gates : DefT K mg "weighted_gates" s_weighted_gates ["gates", "weights", "p"]
  d_gates_sum : DefT K mg "gates_sum" s_gates_sum ["gates", "columns", "p"]
  d_at_number : DefT K mg "at_number" s_at_number ["table", "k", "number"]
  d_weights_polys : DefT2 K mg "weights_polys" "weights" s_weights_polys ["many", "t", "p"]
  d_value : DefT K mg "value" s_value ["values", "t", "p"]
  d_hopeful : DefT K mg "hopeful" s_hopeful ["lack", "guesses", "degree", "p"]
  d__law_stream : DefT K mg "_law_stream" s__law_stream ["_law_script"]
  d__law_take : DefT K mg "_law_take" s__law_take ["_law_row", "_law_many"]
  d__law_gate : DefT K mg "_law_gate" s__law_gate ["_law_row", "_law_p", "_law_columns"]
  d__law_circuit : DefT K mg "_law_circuit" s__law_circuit ["_law_row", "_law_most", "_law_wide"]
  d__law_inputs : DefT K mg "_law_inputs" s__law_inputs ["_law_row", "_law_circuit_here", "_law_bits"]
  d__law_near : DefT K mg "_law_near" s__law_near ["_law_one", "_law_two", "_law_p"]
  d__law_corner : DefT K mg "_law_corner" s__law_corner ["_law_k", "_law_dims"]
  d__law_value : DefT K mg "_law_value" s__law_value ["_law_table", "_law_point", "_law_p"]
  d__law_at : DefT K mg "_law_at" s__law_at ["_law_values", "_law_t", "_law_p"]
  d_law : DefT K mg "law" s_law ["_law_script"]
  mi_Answerer : IniT K mg "Answerer" "Answerer.__init__" s_Answerer_init ["self", "circuit", "rows"]
  mi_Guesser : IniT K mg "Guesser" "Bluffer.__init__" s_Bluffer_init ["self", "circuit", "rows", "claimed", "choices"]
  mm_Answerer_begin : MthT K "Answerer" "begin" "Answerer.begin" s_Answerer_begin ["self", "layer", "point"]
  mm_Answerer_column_value : MthT K "Answerer" "column_value" "Answerer.column_value" s_Answerer_column_value ["self", "number"]
  mm_Answerer_first_tables : MthT K "Answerer" "first_tables" "Answerer.first_tables" s_Answerer_first_tables ["self"]
  mm_Answerer_outputs : MthT K "Answerer" "outputs" "Answerer.outputs" s_Answerer_outputs ["self"]
  mm_Answerer_poly : MthT K "Answerer" "poly" "Answerer.poly" s_Answerer_poly ["self"]
  mm_Answerer_row_value : MthT K "Answerer" "row_value" "Answerer.row_value" s_Answerer_row_value ["self", "number"]
  mm_Answerer_second_tables : MthT K "Answerer" "second_tables" "Answerer.second_tables" s_Answerer_second_tables ["self", "value"]
  mm_Answerer_throw : MthT K "Answerer" "throw" "Answerer.throw" s_Answerer_throw ["self", "number"]
  mm_Answerer_turn : MthT K "Answerer" "turn" "Answerer.turn" s_Answerer_turn ["self"]
  mm_Guesser_begin : MthT K "Guesser" "begin" "Bluffer.begin" s_Bluffer_begin ["self", "layer", "point"]
  mm_Guesser_choice : MthT K "Guesser" "choice" "Bluffer.choice" s_Bluffer_choice ["self"]
  mm_Guesser_outputs : MthT K "Guesser" "outputs" "Bluffer.outputs" s_Bluffer_outputs ["self"]
  mm_Guesser_poly : MthT K "Guesser" "poly" "Guesser.poly" s_Guesser_poly ["self"]
  mm_Guesser_throw : MthT K "Guesser" "throw" "Bluffer.throw" s_Bluffer_throw ["self", "number"]
  f_below : FldT K ["Answerer"] "below"
  f_bits : FldT K ["Answerer", "Bluffer", "Guesser"] "bits"
  f_choices : FldT K ["Bluffer", "Guesser"] "choices"
  f_circuit : FldT K ["Answerer", "Bluffer", "Guesser"] "circuit"
  f_claim : FldT K ["Bluffer", "Guesser"] "claim"
  f_claimed : FldT K ["Bluffer", "Guesser"] "claimed"
  f_columns : FldT K ["Answerer"] "columns"
  f_factors : FldT K ["Answerer"] "factors"
  f_first : FldT K ["Answerer"] "first"
  f_gates : FldT K ["Answerer"] "gates"
  f_honest : FldT K ["Bluffer", "Guesser"] "honest"
  f_layer : FldT K ["Answerer", "Bluffer", "Guesser"] "layer"
  f_left : FldT K ["Answerer"] "left"
  f_near : FldT K ["Answerer"] "near"
  f_p : FldT K ["Answerer", "Bluffer", "Guesser"] "p"
  f_point : FldT K ["Bluffer", "Guesser"] "point"
  f_rest : FldT K ["Answerer"] "rest"
  f_round : FldT K ["Answerer"] "round"
  f_second : FldT K ["Answerer"] "second"
  f_sent : FldT K ["Bluffer", "Guesser"] "sent"
  f_share : FldT K ["Answerer"] "share"
  f_steps : FldT K ["Answerer"] "steps"
  f_tables : FldT K ["Answerer"] "tables"
  f_throws : FldT K ["Bluffer", "Guesser"] "throws"
  f_used : FldT K ["Bluffer", "Guesser"] "used"
  f_wide : FldT K ["Answerer"] "wide"
  k_MAX_GATES : ∃ t, mg "MAX_GATES" = some (.int 4096 t)
  k_MAX_LAYERS : ∃ t, mg "MAX_LAYERS" = some (.int 64 t)
  k_MAX_ROWS : ∃ t, mg "MAX_ROWS" = some (.int 1024 t)
  k_MAX_WIDTH : ∃ t, mg "MAX_WIDTH" = some (.int 8 t)
  k_MOST : ∃ t, mg "MOST" = some (.int 2147483647 t)
  n_abs : mg "abs" = none
  n_all : mg "all" = none
  n_bool : mg "bool" = none
  n_enumerate : mg "enumerate" = none
  n_int : mg "int" = none
  n_isinstance : mg "isinstance" = none
  n_len : mg "len" = none
  n_list : mg "list" = none
  n_max : mg "max" = none
  n_range : mg "range" = none
  n_sum : mg "sum" = none
  n_tuple : mg "tuple" = none
  n_zip : mg "zip" = none
  e_FieldError : ErrT K mg "FieldError" "FieldError.__init__" s_FieldError_init ["self", "number"] ["number"]
  i_FieldError : InitB K mg "LayeraskError"
  e_CircuitError : ErrT K mg "CircuitError" "CircuitError.__init__" s_CircuitError_init ["self", "part"] ["part"]
  i_CircuitError : InitB K mg "LayeraskError"
  e_SizeError : ErrT K mg "SizeError" "SizeError.__init__" s_SizeError_init ["self", "limit"] ["limit"]
  i_SizeError : InitB K mg "LayeraskError"
theorem f_below_fl {K : PySem.W.Frag} {mg : Str → Option Value} (T : Txt K mg) : FldT K (flT "below") "below" := by
  rw [show flT "below" = ["Answerer"] from by rfl]
  exact T.f_below
theorem f_bits_fl {K : PySem.W.Frag} {mg : Str → Option Value} (T : Txt K mg) : FldT K (flT "bits") "bits" := by
  rw [show flT "bits" = ["Answerer", "Bluffer", "Guesser"] from by rfl]
  exact T.f_bits
theorem f_choices_fl {K : PySem.W.Frag} {mg : Str → Option Value} (T : Txt K mg) : FldT K (flT "choices") "choices" := by
  rw [show flT "choices" = ["Bluffer", "Guesser"] from by rfl]
  exact T.f_choices
theorem f_circuit_fl {K : PySem.W.Frag} {mg : Str → Option Value} (T : Txt K mg) : FldT K (flT "circuit") "circuit" := by
  rw [show flT "circuit" = ["Answerer", "Bluffer", "Guesser"] from by rfl]
  exact T.f_circuit
theorem f_claim_fl {K : PySem.W.Frag} {mg : Str → Option Value} (T : Txt K mg) : FldT K (flT "claim") "claim" := by
  rw [show flT "claim" = ["Bluffer", "Guesser"] from by rfl]
  exact T.f_claim
theorem f_claimed_fl {K : PySem.W.Frag} {mg : Str → Option Value} (T : Txt K mg) : FldT K (flT "claimed") "claimed" := by
  rw [show flT "claimed" = ["Bluffer", "Guesser"] from by rfl]
  exact T.f_claimed
theorem f_columns_fl {K : PySem.W.Frag} {mg : Str → Option Value} (T : Txt K mg) : FldT K (flT "columns") "columns" := by
  rw [show flT "columns" = ["Answerer"] from by rfl]
  exact T.f_columns
theorem f_factors_fl {K : PySem.W.Frag} {mg : Str → Option Value} (T : Txt K mg) : FldT K (flT "factors") "factors" := by
  rw [show flT "factors" = ["Answerer"] from by rfl]
  exact T.f_factors
theorem f_first_fl {K : PySem.W.Frag} {mg : Str → Option Value} (T : Txt K mg) : FldT K (flT "first") "first" := by
  rw [show flT "first" = ["Answerer"] from by rfl]
  exact T.f_first
theorem f_gates_fl {K : PySem.W.Frag} {mg : Str → Option Value} (T : Txt K mg) : FldT K (flT "gates") "gates" := by
  rw [show flT "gates" = ["Answerer"] from by rfl]
  exact T.f_gates
theorem f_honest_fl {K : PySem.W.Frag} {mg : Str → Option Value} (T : Txt K mg) : FldT K (flT "honest") "honest" := by
  rw [show flT "honest" = ["Bluffer", "Guesser"] from by rfl]
  exact T.f_honest
theorem f_layer_fl {K : PySem.W.Frag} {mg : Str → Option Value} (T : Txt K mg) : FldT K (flT "layer") "layer" := by
  rw [show flT "layer" = ["Answerer", "Bluffer", "Guesser"] from by rfl]
  exact T.f_layer
theorem f_left_fl {K : PySem.W.Frag} {mg : Str → Option Value} (T : Txt K mg) : FldT K (flT "left") "left" := by
  rw [show flT "left" = ["Answerer"] from by rfl]
  exact T.f_left
theorem f_near_fl {K : PySem.W.Frag} {mg : Str → Option Value} (T : Txt K mg) : FldT K (flT "near") "near" := by
  rw [show flT "near" = ["Answerer"] from by rfl]
  exact T.f_near
theorem f_p_fl {K : PySem.W.Frag} {mg : Str → Option Value} (T : Txt K mg) : FldT K (flT "p") "p" := by
  rw [show flT "p" = ["Answerer", "Bluffer", "Guesser"] from by rfl]
  exact T.f_p
theorem f_point_fl {K : PySem.W.Frag} {mg : Str → Option Value} (T : Txt K mg) : FldT K (flT "point") "point" := by
  rw [show flT "point" = ["Bluffer", "Guesser"] from by rfl]
  exact T.f_point
theorem f_rest_fl {K : PySem.W.Frag} {mg : Str → Option Value} (T : Txt K mg) : FldT K (flT "rest") "rest" := by
  rw [show flT "rest" = ["Answerer"] from by rfl]
  exact T.f_rest
theorem f_round_fl {K : PySem.W.Frag} {mg : Str → Option Value} (T : Txt K mg) : FldT K (flT "round") "round" := by
  rw [show flT "round" = ["Answerer"] from by rfl]
  exact T.f_round
theorem f_second_fl {K : PySem.W.Frag} {mg : Str → Option Value} (T : Txt K mg) : FldT K (flT "second") "second" := by
  rw [show flT "second" = ["Answerer"] from by rfl]
  exact T.f_second
theorem f_sent_fl {K : PySem.W.Frag} {mg : Str → Option Value} (T : Txt K mg) : FldT K (flT "sent") "sent" := by
  rw [show flT "sent" = ["Bluffer", "Guesser"] from by rfl]
  exact T.f_sent
theorem f_share_fl {K : PySem.W.Frag} {mg : Str → Option Value} (T : Txt K mg) : FldT K (flT "share") "share" := by
  rw [show flT "share" = ["Answerer"] from by rfl]
  exact T.f_share
theorem f_steps_fl {K : PySem.W.Frag} {mg : Str → Option Value} (T : Txt K mg) : FldT K (flT "steps") "steps" := by
  rw [show flT "steps" = ["Answerer"] from by rfl]
  exact T.f_steps
theorem f_tables_fl {K : PySem.W.Frag} {mg : Str → Option Value} (T : Txt K mg) : FldT K (flT "tables") "tables" := by
  rw [show flT "tables" = ["Answerer"] from by rfl]
  exact T.f_tables
theorem f_throws_fl {K : PySem.W.Frag} {mg : Str → Option Value} (T : Txt K mg) : FldT K (flT "throws") "throws" := by
  rw [show flT "throws" = ["Bluffer", "Guesser"] from by rfl]
  exact T.f_throws
theorem f_used_fl {K : PySem.W.Frag} {mg : Str → Option Value} (T : Txt K mg) : FldT K (flT "used") "used" := by
  rw [show flT "used" = ["Bluffer", "Guesser"] from by rfl]
  exact T.f_used
theorem f_wide_fl {K : PySem.W.Frag} {mg : Str → Option Value} (T : Txt K mg) : FldT K (flT "wide") "wide" := by
  rw [show flT "wide" = ["Answerer"] from by rfl]
  exact T.f_wide
theorem ok_FieldError {P : Program} {w : World} {K : PySem.W.Frag} {mg : Str → Option Value} {base : Heap} (T : Txt K mg) : ErrOk P w K mg base "FieldError" ["number"] := by
  obtain ⟨m, x, hno, fI, fd, i1, i2, F, b⟩ := T.e_FieldError
  exact ⟨m, x, by decide, fI, fd, _, i1, i2, b, err_init1 F sc_FieldError_init rfl (fun _ _ _ _ _ _ => ps_expr (pe_binit (by rfl) T.i_FieldError.mgb T.i_FieldError.ini (pa_cons (pe_var (i := 0) rfl (.inl rfl)) (pa_cons pe_str pa_nil)))) (fun _ _ _ _ _ _ => ps_ost (pe_var (i := 0) rfl (.inl rfl)) (pe_var (i := 1) rfl (.inl rfl))) x (hno "number" (by decide))⟩
theorem ok_CircuitError {P : Program} {w : World} {K : PySem.W.Frag} {mg : Str → Option Value} {base : Heap} (T : Txt K mg) : ErrOk P w K mg base "CircuitError" ["part"] := by
  obtain ⟨m, x, hno, fI, fd, i1, i2, F, b⟩ := T.e_CircuitError
  exact ⟨m, x, by decide, fI, fd, _, i1, i2, b, err_init1 F sc_CircuitError_init rfl (fun _ _ _ _ _ _ => ps_expr (pe_binit (by rfl) T.i_CircuitError.mgb T.i_CircuitError.ini (pa_cons (pe_var (i := 0) rfl (.inl rfl)) (pa_cons pe_str pa_nil)))) (fun _ _ _ _ _ _ => ps_ost (pe_var (i := 0) rfl (.inl rfl)) (pe_var (i := 1) rfl (.inl rfl))) x (hno "part" (by decide))⟩
theorem ok_SizeError {P : Program} {w : World} {K : PySem.W.Frag} {mg : Str → Option Value} {base : Heap} (T : Txt K mg) : ErrOk P w K mg base "SizeError" ["limit"] := by
  obtain ⟨m, x, hno, fI, fd, i1, i2, F, b⟩ := T.e_SizeError
  exact ⟨m, x, by decide, fI, fd, _, i1, i2, b, err_init1 F sc_SizeError_init rfl (fun _ _ _ _ _ _ => ps_expr (pe_binit (by rfl) T.i_SizeError.mgb T.i_SizeError.ini (pa_cons (pe_var (i := 0) rfl (.inl rfl)) (pa_cons pe_str pa_nil)))) (fun _ _ _ _ _ _ => ps_ost (pe_var (i := 0) rfl (.inl rfl)) (pe_var (i := 1) rfl (.inl rfl))) x (hno "limit" (by decide))⟩
theorem ok_is_prime {P : Program} {w : World} {K : PySem.W.Frag} {mg : Str → Option Value} {base : Heap} (T : Txt K mg) : Ok P w K mg base "is_prime" 1 ["number"] C_is_prime := by
  obtain ⟨f, fd, F, hm, b⟩ := T.d_is_prime
  exact ⟨f, fd, hm, F.kp, b, okD (W := W_is_prime) (k := 0) F sc_is_prime (fun cdv A outer s H E hr => jss_cons (js_if (jt_cmp op_lt opl_lt (je_var 0) (je_int) (nomark _)) (jss_one (js_ret (je_cmp op_gt opl_gt (je_var 0) (je_int) (nomark _)))) (jss_nil)) (jss_cons (js_if (jt_cmp (op_eqD hr.units) opl_eq (je_op op_mod opl_mod (je_var 0) (je_int)) (je_int) (nomark _)) (jss_one (js_ret (je_bl))) (jss_nil)) (jss_cons (js_set 1 sc_is_prime.nd rfl (Or.inl rfl) (je_int)) (jss_cons (js_while passD (jt_cmp op_le opl_le (je_op op_mulC opl_mul (je_var 1) (je_var 1)) (je_var 0) (nomark _)) (jss_cons (js_if (jt_cmp (op_eqD hr.units) opl_eq (je_op op_mod opl_mod (je_var 0) (je_var 1)) (je_int) (nomark _)) (jss_one (js_ret (je_bl))) (jss_nil)) (jss_one (js_aug 1 sc_is_prime.nd rfl (Or.inl rfl) (je_int) iop_add opl_addI)))) (jss_one (js_ret (je_bl))))))) rd_is_prime⟩
theorem ok_check_modulus {P : Program} {w : World} {K : PySem.W.Frag} {mg : Str → Option Value} {base : Heap} (T : Txt K mg) (G_FieldError : ErrOk P w K mg base "FieldError" ["number"]) (G_is_prime : Ok P w K mg base "is_prime" 1 ["number"] C_is_prime) : Ok P w K mg base "check_modulus" 3 ["p"] C_check_modulus := by
  obtain ⟨f, fd, F, hm, b⟩ := T.d_check_modulus
  exact ⟨f, fd, hm, F.kp, b, okD (W := W_check_modulus) (k := 2) F sc_check_modulus (fun cdv A outer s H E hr => jss_one (js_if (PW.pt (jw_or (jt_not (jt_chain op_le opl_le op_le opl_le (je_int) (je_var 0) ((je_globE (by rfl) T.k_MOST)))) (jw_or1 (jt_not (jt_val (je_callO G_is_prime takesD (hr.mono (by decide)) (by rfl) (ja_cons (je_var 0) (ja_nil)) 1)))))) (jss_one (js_raise (c := "FieldError") (fs := ["number"]) rfl takesD G_FieldError (by rfl) (hr.mono (by decide)) (ja_cons (je_var 0) (ja_nil)))) (jss_nil))) rd_check_modulus⟩
theorem ok_power {P : Program} {w : World} {K : PySem.W.Frag} {mg : Str → Option Value} {base : Heap} (T : Txt K mg) : Ok P w K mg base "power" 1 ["base", "exponent", "p"] C_power := by
  obtain ⟨f, fd, F, hm, b⟩ := T.d_power
  exact ⟨f, fd, hm, F.kp, b, okD (W := W_power) (k := 0) F sc_power (fun cdv A outer s H E hr => jss_cons (js_set 3 sc_power.nd rfl (Or.inl rfl) (je_op op_mod opl_mod (je_int) (je_var 2))) (jss_cons (js_set 4 sc_power.nd rfl (Or.inl rfl) (je_op op_mod opl_mod (je_var 0) (je_var 2))) (jss_cons (js_while passD (jt_cmp op_gt opl_gt (je_var 1) (je_int) (nomark _)) (jss_cons (js_if (jt_cmp (op_eqD hr.units) opl_eq (je_op op_mod opl_mod (je_var 1) (je_int)) (je_int) (nomark _)) (jss_one (js_set 3 sc_power.nd rfl (Or.inl rfl) (je_op op_mod opl_mod (je_op op_mulC opl_mul (je_var 3) (je_var 4)) (je_var 2)))) (jss_nil)) (jss_cons (js_set 4 sc_power.nd rfl (Or.inl rfl) (je_op op_mod opl_mod (je_op op_mulC opl_mul (je_var 4) (je_var 4)) (je_var 2))) (jss_one (js_aug 1 sc_power.nd rfl (Or.inl rfl) (je_int) iop_fdiv opl_idiv))))) (jss_one (js_ret (je_var 3)))))) rd_power⟩
theorem ok_inverse {P : Program} {w : World} {K : PySem.W.Frag} {mg : Str → Option Value} {base : Heap} (T : Txt K mg) (G_FieldError : ErrOk P w K mg base "FieldError" ["number"]) (G_power : Ok P w K mg base "power" 1 ["base", "exponent", "p"] C_power) : Ok P w K mg base "inverse" 3 ["number", "p"] C_inverse := by
  obtain ⟨f, fd, F, hm, b⟩ := T.d_inverse
  exact ⟨f, fd, hm, F.kp, b, okD (W := W_inverse) (k := 2) F sc_inverse (fun cdv A outer s H E hr => jss_cons (js_if (jt_cmp (op_eqD hr.units) opl_eq (je_op op_mod opl_mod (je_var 0) (je_var 1)) (je_int) (nomark _)) (jss_one (js_raise (c := "FieldError") (fs := ["number"]) rfl takesD G_FieldError (by rfl) (hr.mono (by decide)) (ja_cons (je_var 0) (ja_nil)))) (jss_nil)) (jss_one (js_ret (je_callO G_power takesD (hr.mono (by decide)) (by rfl) (ja_cons (je_var 0) (ja_cons (je_op op_sub opl_sub (je_var 1) (je_int)) (ja_cons (je_var 1) (ja_nil)))) 3)))) rd_inverse⟩
theorem ok_fits {P : Program} {w : World} {K : PySem.W.Frag} {mg : Str → Option Value} {base : Heap} (T : Txt K mg) : Ok P w K mg base "fits" 1 ["thing", "most"] C_fits := by
  obtain ⟨f, fd, F, hm, b⟩ := T.d_fits
  exact ⟨f, fd, hm, F.kp, b, okD (W := W_fits) (k := 0) F sc_fits (fun cdv A outer s H E hr => jss_one (js_ret (je_and (je_callB call_isi cbl_isi (by rfl) T.n_isinstance bt_isinstance (ja_cons (je_var 0) (ja_cons (je_ty (n := "int") (by rfl) T.n_int bt_int) (ja_nil)))) (je_and (je_not (je_callB call_isi cbl_isi (by rfl) T.n_isinstance bt_isinstance (ja_cons (je_var 0) (ja_cons (je_ty (n := "bool") (by rfl) T.n_bool bt_bool) (ja_nil))))) (je_one (je_chain op_le opl_le op_le opl_le (je_int) (je_var 0) (je_var 1))))))) rd_fits⟩
theorem ok_is_gate {P : Program} {w : World} {K : PySem.W.Frag} {mg : Str → Option Value} {base : Heap} (T : Txt K mg) (G_fits : Ok P w K mg base "fits" 1 ["thing", "most"] C_fits) : Ok P w K mg base "is_gate" 2 ["gate", "p", "columns"] C_is_gate := by
  obtain ⟨f, fd, F, hm, b⟩ := T.d_is_gate
  exact ⟨f, fd, hm, F.kp, b, okD (W := W_is_gate) (k := 1) F sc_is_gate (fun cdv A outer s H E hr => jss_cons (js_if (PW.pt (jw_or (jt_not (jt_val (je_callB call_isi cbl_isi (by rfl) T.n_isinstance bt_isinstance (ja_cons (je_var 0) (ja_cons (je_ty (n := "tuple") (by rfl) T.n_tuple bt_tuple) (ja_nil)))))) (jw_or1 (jt_cmp (op_eqD hr.units) opl_eq (je_callB call_len cbl_len (by rfl) T.n_len bt_len (ja_cons (je_var 0) (ja_nil))) (je_int) (nomark _))))) (jss_one (js_ret (je_bl))) (jss_nil)) (jss_cons (js_if (PW.pt (jw_and (jt_cmp (op_eqD hr.units) opl_eq (je_ix (je_var 0) (je_int)) (je_str) (nomark _)) (jw_and1 (jt_cmp (op_eqD hr.units) opl_eq (je_callB call_len cbl_len (by rfl) T.n_len bt_len (ja_cons (je_var 0) (ja_nil))) (je_int) (nomark _))))) (jss_cons (js_set 3 sc_is_gate.nd rfl (Or.inl rfl) (je_and (je_callO G_fits takesD (hr.mono (by decide)) (by rfl) (ja_cons (je_ix (je_var 0) (je_int)) (ja_cons (je_op op_sub opl_sub (je_var 1) (je_int)) (ja_nil))) 2) (je_one (je_callO G_fits takesD (hr.mono (by decide)) (by rfl) (ja_cons (je_ix (je_var 0) (je_int)) (ja_cons (je_op op_sub opl_sub (je_var 1) (je_int)) (ja_nil))) 2)))) (jss_one (js_ret (je_and (je_var 3) (je_and (je_callO G_fits takesD (hr.mono (by decide)) (by rfl) (ja_cons (je_ix (je_var 0) (je_int)) (ja_cons (je_op op_sub opl_sub (je_var 2) (je_int)) (ja_nil))) 2) (je_one (je_callO G_fits takesD (hr.mono (by decide)) (by rfl) (ja_cons (je_ix (je_var 0) (je_int)) (ja_cons (je_op op_sub opl_sub (je_var 2) (je_int)) (ja_nil))) 2))))))) (jss_nil)) (jss_cons (js_if (PW.pt (jw_and (jt_cmp (op_eqD hr.units) opl_eq (je_ix (je_var 0) (je_int)) (je_str) (nomark _)) (jw_and1 (jt_cmp (op_eqD hr.units) opl_eq (je_callB call_len cbl_len (by rfl) T.n_len bt_len (ja_cons (je_var 0) (ja_nil))) (je_int) (nomark _))))) (jss_one (js_ret (je_and (je_callO G_fits takesD (hr.mono (by decide)) (by rfl) (ja_cons (je_ix (je_var 0) (je_int)) (ja_cons (je_op op_sub opl_sub (je_var 1) (je_int)) (ja_nil))) 2) (je_and (je_callO G_fits takesD (hr.mono (by decide)) (by rfl) (ja_cons (je_ix (je_var 0) (je_int)) (ja_cons (je_op op_sub opl_sub (je_var 2) (je_int)) (ja_nil))) 2) (je_one (je_callO G_fits takesD (hr.mono (by decide)) (by rfl) (ja_cons (je_ix (je_var 0) (je_int)) (ja_cons (je_op op_sub opl_sub (je_var 2) (je_int)) (ja_nil))) 2)))))) (jss_nil)) (jss_one (js_ret (je_bl)))))) rd_is_gate⟩
theorem ok_is_shaped {P : Program} {w : World} {K : PySem.W.Frag} {mg : Str → Option Value} {base : Heap} (T : Txt K mg) : Ok P w K mg base "is_shaped" 1 ["circuit"] C_is_shaped := by
  obtain ⟨f, fd, F, hm, b⟩ := T.d_is_shaped
  exact ⟨f, fd, hm, F.kp, b, okD (W := W_is_shaped) (k := 0) F sc_is_shaped (fun cdv A outer s H E hr => jss_cons (js_if (PW.pt (jw_or (jt_not (jt_val (je_callB call_isi cbl_isi (by rfl) T.n_isinstance bt_isinstance (ja_cons (je_var 0) (ja_cons (je_ty (n := "tuple") (by rfl) T.n_tuple bt_tuple) (ja_nil)))))) (jw_or (jt_cmp (op_neD hr.units) opl_ne (je_callB call_len cbl_len (by rfl) T.n_len bt_len (ja_cons (je_var 0) (ja_nil))) (je_int) (nomark _)) (jw_or1 (jt_cmp (op_neD hr.units) opl_ne (je_ix (je_var 0) (je_int)) (je_str) (nomark _)))))) (jss_one (js_ret (je_bl))) (jss_nil)) (jss_cons (js_asg (je_var 0) (jg_tup (js := [1, 2, 3, 4]) [1, 2, 3, 4] rfl (by decide) (pgs_cons (pg_name (i := 1) sc_is_shaped.nd rfl (Or.inl rfl)) (pgs_cons (pg_name (i := 2) sc_is_shaped.nd rfl (Or.inl rfl)) (pgs_cons (pg_name (i := 3) sc_is_shaped.nd rfl (Or.inl rfl)) (pgs_cons (pg_name (i := 4) sc_is_shaped.nd rfl (Or.inl rfl)) (pgs_nil))))))) (jss_cons (js_if (PW.pt (jw_or (jt_not (jt_val (je_callB call_isi cbl_isi (by rfl) T.n_isinstance bt_isinstance (ja_cons (je_var 2) (ja_cons (je_ty (n := "int") (by rfl) T.n_int bt_int) (ja_nil)))))) (jw_or (jt_val (je_callB call_isi cbl_isi (by rfl) T.n_isinstance bt_isinstance (ja_cons (je_var 2) (ja_cons (je_ty (n := "bool") (by rfl) T.n_bool bt_bool) (ja_nil))))) (jw_or (jt_not (jt_val (je_callB call_isi cbl_isi (by rfl) T.n_isinstance bt_isinstance (ja_cons (je_var 3) (ja_cons (je_ty (n := "list") (by rfl) T.n_list bt_list) (ja_nil)))))) (jw_or1 (jt_not (jt_val (je_callB call_isi cbl_isi (by rfl) T.n_isinstance bt_isinstance (ja_cons (je_var 4) (ja_cons (je_ty (n := "list") (by rfl) T.n_list bt_list) (ja_nil))))))))))) (jss_one (js_ret (je_bl))) (jss_nil)) (jss_cons (js_if (PW.pt (jw_or (jt_cmp (op_eqD hr.units) opl_eq (je_callB call_len cbl_len (by rfl) T.n_len bt_len (ja_cons (je_var 4) (ja_nil))) (je_int) (nomark _)) (jw_or1 (jt_cmp (op_neD hr.units) opl_ne (je_callB call_len cbl_len (by rfl) T.n_len bt_len (ja_cons (je_var 3) (ja_nil))) (je_op op_addAll opl_add (je_callB call_len cbl_len (by rfl) T.n_len bt_len (ja_cons (je_var 4) (ja_nil))) (je_int)) (nomark _))))) (jss_one (js_ret (je_bl))) (jss_nil)) (jss_one (js_ret (je_callB (cr_all rfl) cbl_all (by rfl) T.n_all bt_all (ja_cons (je_lc (own := [("bits", 5)]) rfl sc_is_shaped.nd (ji_list (je_var 3)) (blkOk_by (N := ["circuit", "kind", "p", "widths", "layers", "bits"]) (sc := defScope s_is_shaped) (by decide +kernel)) (fun _ _ _ _ _ => jg_name (js := [5]) 5 (by decide) sc_is_shaped.nd rfl (Or.inl rfl)) (fun _ _ _ _ _ => jts_nil) (fun _ _ _ _ _ => je_and (je_callB call_isi cbl_isi (by rfl) T.n_isinstance bt_isinstance (ja_cons (je_var 5) (ja_cons (je_ty (n := "int") (by rfl) T.n_int bt_int) (ja_nil)))) (je_and (je_not (je_callB call_isi cbl_isi (by rfl) T.n_isinstance bt_isinstance (ja_cons (je_var 5) (ja_cons (je_ty (n := "bool") (by rfl) T.n_bool bt_bool) (ja_nil))))) (je_one (je_cmp op_ge opl_ge (je_var 5) (je_int) (nomark _)))))) (ja_nil))))))))) rd_is_shaped⟩
theorem ok_checked {P : Program} {w : World} {K : PySem.W.Frag} {mg : Str → Option Value} {base : Heap} (T : Txt K mg) (G_CircuitError : ErrOk P w K mg base "CircuitError" ["part"]) (G_SizeError : ErrOk P w K mg base "SizeError" ["limit"]) (G_check_modulus : Ok P w K mg base "check_modulus" 3 ["p"] C_check_modulus) (G_is_shaped : Ok P w K mg base "is_shaped" 1 ["circuit"] C_is_shaped) (G_is_gate : Ok P w K mg base "is_gate" 2 ["gate", "p", "columns"] C_is_gate) : Ok P w K mg base "checked" 4 ["circuit"] C_checked := by
  obtain ⟨f, fd, F, hm, b⟩ := T.d_checked
  exact ⟨f, fd, hm, F.kp, b, okD (W := W_checked) (k := 3) F sc_checked (fun cdv A outer s H E hr => jss_cons (js_if (jt_not (jt_val (je_callO G_is_shaped takesD (hr.mono (by decide)) (by rfl) (ja_cons (je_var 0) (ja_nil)) 1))) (jss_one (js_raise (c := "CircuitError") (fs := ["part"]) rfl takesD G_CircuitError (by rfl) (hr.mono (by decide)) (ja_cons (je_str) (ja_nil)))) (jss_nil)) (jss_cons (js_asg (je_var 0) (jg_tup (js := [1, 2, 3, 4]) [1, 2, 3, 4] rfl (by decide) (pgs_cons (pg_name (i := 1) sc_checked.nd rfl (Or.inl rfl)) (pgs_cons (pg_name (i := 2) sc_checked.nd rfl (Or.inr rfl)) (pgs_cons (pg_name (i := 3) sc_checked.nd rfl (Or.inr rfl)) (pgs_cons (pg_name (i := 4) sc_checked.nd rfl (Or.inl rfl)) (pgs_nil))))))) (jss_cons (js_expr (je_callO G_check_modulus takesD (hr.mono (by decide)) (by rfl) (ja_cons (je_var 2) (ja_nil)) 1)) (jss_cons (js_if (jt_cmp op_gt opl_gt (je_callB call_len cbl_len (by rfl) T.n_len bt_len (ja_cons (je_var 4) (ja_nil))) ((je_globE (by rfl) T.k_MAX_LAYERS)) (nomark _)) (jss_one (js_raise (c := "SizeError") (fs := ["limit"]) rfl takesD G_SizeError (by rfl) (hr.mono (by decide)) (ja_cons (je_str) (ja_nil)))) (jss_nil)) (jss_cons (js_if (jt_cmp op_gt opl_gt (je_callB (cr_max rfl) cbl_maxL (by rfl) T.n_max bt_max (ja_cons (je_var 3) (ja_nil))) ((je_globE (by rfl) T.k_MAX_WIDTH)) (nomark _)) (jss_one (js_raise (c := "SizeError") (fs := ["limit"]) rfl takesD G_SizeError (by rfl) (hr.mono (by decide)) (ja_cons (je_str) (ja_nil)))) (jss_nil)) (jss_cons (js_if (jt_cmp op_gt opl_gt (je_callB (cr_sum rfl) cbl_sum (by rfl) T.n_sum bt_sum (ja_cons (je_lc (own := [("bits", 6)]) rfl sc_checked.nd (ji_list (je_sl (je_var 3) (jo_none) (jo_some (je_un un_neg unl_neg (je_int))))) (blkOk_by (N := ["circuit", "kind", "p", "widths", "layers", "i", "bits", "gate"]) (sc := defScope s_checked) (by decide +kernel)) (fun _ _ _ _ _ => jg_name (js := [6]) 6 (by decide) sc_checked.nd rfl (Or.inl rfl)) (fun _ _ _ _ _ => jts_nil) (fun _ _ _ _ _ => je_op op_shl opl_shl (je_int) (je_var 6))) (ja_nil))) ((je_globE (by rfl) T.k_MAX_GATES)) (nomark _)) (jss_one (js_raise (c := "SizeError") (fs := ["limit"]) rfl takesD G_SizeError (by rfl) (hr.mono (by decide)) (ja_cons (je_str) (ja_nil)))) (jss_nil)) (jss_cons (js_for passD rfl (ji_range1 (by rfl) T.n_range (ja_cons (je_callB call_len cbl_len (by rfl) T.n_len bt_len (ja_cons (je_var 4) (ja_nil))) (ja_nil))) (jg_name (js := [5]) 5 (by decide) sc_checked.nd rfl (Or.inr rfl)) (jss_cons (js_if (PW.pt (jw_or (jt_not (jt_val (je_callB call_isi cbl_isi (by rfl) T.n_isinstance bt_isinstance (ja_cons (je_ix (je_var 4) (je_var 5)) (ja_cons (je_ty (n := "list") (by rfl) T.n_list bt_list) (ja_nil)))))) (jw_or1 (jt_cmp (op_neD hr.units) opl_ne (je_callB call_len cbl_len (by rfl) T.n_len bt_len (ja_cons (je_ix (je_var 4) (je_var 5)) (ja_nil))) (je_op op_shl opl_shl (je_int) (je_ix (je_var 3) (je_var 5))) (nomark _))))) (jss_one (js_raise (c := "CircuitError") (fs := ["part"]) rfl takesD G_CircuitError (by rfl) (hr.mono (by decide)) (ja_cons (je_str) (ja_nil)))) (jss_nil)) (jss_one (js_if (jt_not (jt_val (je_callB (cr_all rfl) cbl_all (by rfl) T.n_all bt_all (ja_cons (je_lc (own := [("gate", 7)]) rfl sc_checked.nd (ji_list (je_ix (je_var 4) (je_var 5))) (blkOk_by (N := ["circuit", "kind", "p", "widths", "layers", "i", "bits", "gate"]) (sc := defScope s_checked) (by decide +kernel)) (fun _ _ _ _ _ => jg_name (js := [7]) 7 (by decide) sc_checked.nd rfl (Or.inl rfl)) (fun _ _ _ _ _ => jts_nil) (fun _ _ _ _ _ => je_callO G_is_gate takes0 (hr.mono (by decide)) (by rfl) (ja_cons (je_var 7) (ja_cons (je_var 2) (ja_cons (je_op op_shl opl_shl (je_int) (je_ix (je_var 3) (je_op op_addAll opl_add (je_var 5) (je_int)))) (ja_nil)))) 3)) (ja_nil))))) (jss_one (js_raise (c := "CircuitError") (fs := ["part"]) rfl takesD G_CircuitError (by rfl) (hr.mono (by decide)) (ja_cons (je_str) (ja_nil)))) (jss_nil))))) (jss_one (js_ret (je_var 0)))))))))) rd_checked⟩
theorem ok_modulus {P : Program} {w : World} {K : PySem.W.Frag} {mg : Str → Option Value} {base : Heap} (T : Txt K mg) : Ok P w K mg base "modulus" 1 ["circuit"] C_modulus := by
  obtain ⟨f, fd, F, hm, b⟩ := T.d_modulus
  exact ⟨f, fd, hm, F.kp, b, okD (W := W_modulus) (k := 0) F sc_modulus (fun cdv A outer s H E hr => jss_one (js_ret (je_ix (je_var 0) (je_int)))) rd_modulus⟩
theorem ok_depth {P : Program} {w : World} {K : PySem.W.Frag} {mg : Str → Option Value} {base : Heap} (T : Txt K mg) : Ok P w K mg base "depth" 1 ["circuit"] C_depth := by
  obtain ⟨f, fd, F, hm, b⟩ := T.d_depth
  exact ⟨f, fd, hm, F.kp, b, okD (W := W_depth) (k := 0) F sc_depth (fun cdv A outer s H E hr => jss_one (js_ret (je_callB call_len cbl_len (by rfl) T.n_len bt_len (ja_cons (je_ix (je_var 0) (je_int)) (ja_nil))))) rd_depth⟩
theorem ok_width {P : Program} {w : World} {K : PySem.W.Frag} {mg : Str → Option Value} {base : Heap} (T : Txt K mg) : Ok P w K mg base "width" 1 ["circuit", "layer"] C_width := by
  obtain ⟨f, fd, F, hm, b⟩ := T.d_width
  exact ⟨f, fd, hm, F.kp, b, okD (W := W_width) (k := 0) F sc_width (fun cdv A outer s H E hr => jss_one (js_ret (je_ix (je_ix (je_var 0) (je_int)) (je_var 1)))) rd_width⟩
theorem ok_row_bits {P : Program} {w : World} {K : PySem.W.Frag} {mg : Str → Option Value} {base : Heap} (T : Txt K mg) : Ok P w K mg base "row_bits" 1 ["rows"] C_row_bits := by
  obtain ⟨f, fd, F, hm, b⟩ := T.d_row_bits
  exact ⟨f, fd, hm, F.kp, b, okD (W := W_row_bits) (k := 0) F sc_row_bits (fun cdv A outer s H E hr => jss_cons (js_set 1 sc_row_bits.nd rfl (Or.inl rfl) (je_int)) (jss_cons (js_while passD (jt_cmp op_lt opl_lt (je_op op_shl opl_shl (je_int) (je_var 1)) (je_callB call_len cbl_len (by rfl) T.n_len bt_len (ja_cons (je_var 0) (ja_nil))) (nomark _)) (jss_one (js_aug 1 sc_row_bits.nd rfl (Or.inl rfl) (je_int) iop_add opl_addI))) (jss_one (js_ret (je_var 1))))) rd_row_bits⟩
theorem ok_checked_rows {P : Program} {w : World} {K : PySem.W.Frag} {mg : Str → Option Value} {base : Heap} (T : Txt K mg) (G_CircuitError : ErrOk P w K mg base "CircuitError" ["part"]) (G_SizeError : ErrOk P w K mg base "SizeError" ["limit"]) (G_modulus : Ok P w K mg base "modulus" 1 ["circuit"] C_modulus) (G_width : Ok P w K mg base "width" 1 ["circuit", "layer"] C_width) (G_depth : Ok P w K mg base "depth" 1 ["circuit"] C_depth) (G_row_bits : Ok P w K mg base "row_bits" 1 ["rows"] C_row_bits) (G_fits : Ok P w K mg base "fits" 1 ["thing", "most"] C_fits) : Ok P w K mg base "checked_rows" 3 ["circuit", "rows"] C_checked_rows := by
  obtain ⟨f, fd, F, hm, b⟩ := T.d_checked_rows
  exact ⟨f, fd, hm, F.kp, b, okD (W := W_checked_rows) (k := 2) F sc_checked_rows (fun cdv A outer s H E hr => jss_cons (js_set 2 sc_checked_rows.nd rfl (Or.inr rfl) (je_callO G_modulus takesD (hr.mono (by decide)) (by rfl) (ja_cons (je_var 0) (ja_nil)) 1)) (jss_cons (js_set 3 sc_checked_rows.nd rfl (Or.inl rfl) (je_op op_shl opl_shl (je_int) (je_callO G_width takesD (hr.mono (by decide)) (by rfl) (ja_cons (je_var 0) (ja_cons (je_callO G_depth takesD (hr.mono (by decide)) (by rfl) (ja_cons (je_var 0) (ja_nil)) 1) (ja_nil))) 2))) (jss_cons (js_if (PW.pt (jw_or (jt_not (jt_val (je_callB call_isi cbl_isi (by rfl) T.n_isinstance bt_isinstance (ja_cons (je_var 1) (ja_cons (je_ty (n := "list") (by rfl) T.n_list bt_list) (ja_nil)))))) (jw_or (jt_cmp (op_eqD hr.units) opl_eq (je_callB call_len cbl_len (by rfl) T.n_len bt_len (ja_cons (je_var 1) (ja_nil))) (je_int) (nomark _)) (jw_or1 (jt_cmp (op_neD hr.units) opl_ne (je_callB call_len cbl_len (by rfl) T.n_len bt_len (ja_cons (je_var 1) (ja_nil))) (je_op op_shl opl_shl (je_int) (je_callO G_row_bits takesD (hr.mono (by decide)) (by rfl) (ja_cons (je_var 1) (ja_nil)) 1)) (nomark _)))))) (jss_one (js_raise (c := "CircuitError") (fs := ["part"]) rfl takesD G_CircuitError (by rfl) (hr.mono (by decide)) (ja_cons (je_str) (ja_nil)))) (jss_nil)) (jss_cons (js_if (jt_cmp op_gt opl_gt (je_callB call_len cbl_len (by rfl) T.n_len bt_len (ja_cons (je_var 1) (ja_nil))) ((je_globE (by rfl) T.k_MAX_ROWS)) (nomark _)) (jss_one (js_raise (c := "SizeError") (fs := ["limit"]) rfl takesD G_SizeError (by rfl) (hr.mono (by decide)) (ja_cons (je_str) (ja_nil)))) (jss_nil)) (jss_cons (js_for passD rfl (ji_list (je_var 1)) (jg_name (js := [4]) 4 (by decide) sc_checked_rows.nd rfl (Or.inl rfl)) (jss_one (js_if (PW.pt (jw_or (jt_not (jt_val (je_callB call_isi cbl_isi (by rfl) T.n_isinstance bt_isinstance (ja_cons (je_var 4) (ja_cons (je_ty (n := "list") (by rfl) T.n_list bt_list) (ja_nil)))))) (jw_or (jt_cmp (op_neD hr.units) opl_ne (je_callB call_len cbl_len (by rfl) T.n_len bt_len (ja_cons (je_var 4) (ja_nil))) (je_var 3) (nomark _)) (jw_or1 (jt_not (jt_val (je_callB (cr_all rfl) cbl_all (by rfl) T.n_all bt_all (ja_cons (je_lc (own := [("part", 5)]) rfl sc_checked_rows.nd (ji_list (je_var 4)) (blkOk_by (N := ["circuit", "rows", "p", "many", "row", "part"]) (sc := defScope s_checked_rows) (by decide +kernel)) (fun _ _ _ _ _ => jg_name (js := [5]) 5 (by decide) sc_checked_rows.nd rfl (Or.inl rfl)) (fun _ _ _ _ _ => jts_nil) (fun _ _ _ _ _ => je_callO G_fits takes0 (hr.mono (by decide)) (by rfl) (ja_cons (je_var 5) (ja_cons (je_op op_sub opl_sub (je_var 2) (je_int)) (ja_nil))) 2)) (ja_nil))))))))) (jss_one (js_raise (c := "CircuitError") (fs := ["part"]) rfl takesD G_CircuitError (by rfl) (hr.mono (by decide)) (ja_cons (je_str) (ja_nil)))) (jss_nil)))) (jss_one (js_ret (je_var 1)))))))) rd_checked_rows⟩
theorem ok_gate_value {P : Program} {w : World} {K : PySem.W.Frag} {mg : Str → Option Value} {base : Heap} (T : Txt K mg) : Ok P w K mg base "gate_value" 1 ["gate", "below", "p"] C_gate_value := by
  obtain ⟨f, fd, F, hm, b⟩ := T.d_gate_value
  exact ⟨f, fd, hm, F.kp, b, okD (W := W_gate_value) (k := 0) F sc_gate_value (fun cdv A outer s H E hr => jss_cons (js_if (jt_cmp (op_eqD hr.units) opl_eq (je_ix (je_var 0) (je_int)) (je_str) (nomark _)) (jss_one (js_ret (je_op op_mod opl_mod (je_op op_addAll opl_add (je_op op_mulC opl_mul (je_ix (je_var 0) (je_int)) (je_ix (je_var 1) (je_ix (je_var 0) (je_int)))) (je_op op_mulC opl_mul (je_ix (je_var 0) (je_int)) (je_ix (je_var 1) (je_ix (je_var 0) (je_int))))) (je_var 2)))) (jss_nil)) (jss_one (js_ret (je_op op_mod opl_mod (je_op op_mulC opl_mul (je_op op_mulC opl_mul (je_ix (je_var 0) (je_int)) (je_ix (je_var 1) (je_ix (je_var 0) (je_int)))) (je_ix (je_var 1) (je_ix (je_var 0) (je_int)))) (je_var 2))))) rd_gate_value⟩
theorem ok_run_row {P : Program} {w : World} {K : PySem.W.Frag} {mg : Str → Option Value} {base : Heap} (T : Txt K mg) (G_modulus : Ok P w K mg base "modulus" 1 ["circuit"] C_modulus) (G_gate_value : Ok P w K mg base "gate_value" 1 ["gate", "below", "p"] C_gate_value) : Ok P w K mg base "run_row" 2 ["circuit", "inputs"] C_run_row := by
  obtain ⟨f, fd, F, hm, b⟩ := T.d_run_row
  exact ⟨f, fd, hm, F.kp, b, okDQ (W := W_run_row) (k := 1) F sc_run_row (fun cdv A outer s H E hr => jss_cons (js_set 2 sc_run_row.nd rfl (Or.inr rfl) (je_callO G_modulus takesD (hr.mono (by decide)) (by rfl) (ja_cons (je_var 0) (ja_nil)) 1)) (jss_cons (js_set 3 sc_run_row.nd rfl (Or.inr rfl) (je_lstM (ja_cons (je_callTy call_list_of cbl_list (by rfl) T.n_list bt_list (ja_cons (je_var 1) (ja_nil))) (ja_nil)))) (jss_cons (js_for passD rfl (ji_list (je_revL (je_ix (je_var 0) (je_int)))) (jg_name (js := [4]) 4 (by decide) sc_run_row.nd rfl (Or.inl rfl)) (jss_one (js_expr (je_mL PySem.F.slot_list_append PySem.F.type_list_append mt_append mtl_app (je_var 3) (ja_cons (je_lc (own := [("gate", 5)]) rfl sc_run_row.nd (ji_list (je_var 4)) (blkOk_by (N := ["circuit", "inputs", "p", "found", "gates", "gate"]) (sc := defScope s_run_row) (by decide +kernel)) (fun _ _ _ _ _ => jg_name (js := [5]) 5 (by decide) sc_run_row.nd rfl (Or.inl rfl)) (fun _ _ _ _ _ => jts_nil) (fun _ _ _ _ _ => je_callO G_gate_value takes0 (hr.mono (by decide)) (by rfl) (ja_cons (je_var 5) (ja_cons (je_ix (je_var 3) (je_un un_neg unl_neg (je_int))) (ja_cons (je_var 2) (ja_nil)))) 3)) (ja_nil)))))) (jss_one (js_ret (je_revL (je_var 3))))))) rd_run_row⟩
theorem ok_run {P : Program} {w : World} {K : PySem.W.Frag} {mg : Str → Option Value} {base : Heap} (T : Txt K mg) (G_checked : Ok P w K mg base "checked" 4 ["circuit"] C_checked) (G_run_row : Ok P w K mg base "run_row" 2 ["circuit", "inputs"] C_run_row) (G_checked_rows : Ok P w K mg base "checked_rows" 3 ["circuit", "rows"] C_checked_rows) (G_depth : Ok P w K mg base "depth" 1 ["circuit"] C_depth) (G_width : Ok P w K mg base "width" 1 ["circuit", "layer"] C_width) : Ok P w K mg base "run" 5 ["circuit", "rows"] C_run := by
  obtain ⟨f, fd, F, hm, b⟩ := T.d_run
  exact ⟨f, fd, hm, F.kp, b, okDQ (W := W_run) (k := 4) F sc_run (fun cdv A outer s H E hr => jss_cons (js_expr (je_callO G_checked takesD (hr.mono (by decide)) (by rfl) (ja_cons (je_var 0) (ja_nil)) 1)) (jss_cons (js_setLc (own := [("row", 7)]) 2 rfl sc_run.nd rfl rfl (sw_true rfl rfl rfl (by decide +kernel)) (ji_list (je_callO G_checked_rows takesD (hr.mono (by decide)) (by rfl) (ja_cons (je_var 0) (ja_cons (je_var 1) (ja_nil))) 2)) (blkOk_by (N := ["circuit", "rows", "found", "tables", "layer", "table", "column", "row", "columns"]) (sc := defScope s_run) (by decide +kernel)) (fun _ _ _ _ _ => jg_name (js := [7]) 7 (by decide) sc_run.nd rfl (Or.inl rfl)) (fun _ _ _ _ _ => jts_nil) (fun _ _ _ _ _ => je_callO G_run_row takes0 (hr.mono (by decide)) (by rfl) (ja_cons (je_var 0) (ja_cons (je_var 7) (ja_nil))) 2)) (jss_cons (js_set 3 sc_run.nd rfl (Or.inl rfl) (je_lstM (ja_nil))) (jss_cons (js_for passD rfl (ji_range1 (by rfl) T.n_range (ja_cons (je_op op_addAll opl_add (je_callO G_depth takesD (hr.mono (by decide)) (by rfl) (ja_cons (je_var 0) (ja_nil)) 1) (je_int)) (ja_nil))) (jg_name (js := [4]) 4 (by decide) sc_run.nd rfl (Or.inr rfl)) (jss_cons (js_set 5 sc_run.nd rfl (Or.inl rfl) (je_lstM (ja_nil))) (jss_cons (js_for passD rfl (ji_range1 (by rfl) T.n_range (ja_cons (je_op op_shl opl_shl (je_int) (je_callO G_width takesD (hr.mono (by decide)) (by rfl) (ja_cons (je_var 0) (ja_cons (je_var 4) (ja_nil))) 2)) (ja_nil))) (jg_name (js := [6]) 6 (by decide) sc_run.nd rfl (Or.inr rfl)) (jss_one (js_expr (je_mL PySem.F.slot_list_extend PySem.F.type_list_extend mt_extend mtl_ext (je_var 5) (ja_cons (je_lc (own := [("columns", 8)]) rfl sc_run.nd (ji_list (je_var 2)) (blkOk_by (N := ["circuit", "rows", "found", "tables", "layer", "table", "column", "row", "columns"]) (sc := defScope s_run) (by decide +kernel)) (fun _ _ _ _ _ => jg_name (js := [8]) 8 (by decide) sc_run.nd rfl (Or.inl rfl)) (fun _ _ _ _ _ => jts_nil) (fun _ _ _ _ _ => je_ix (je_ix (je_var 8) (je_var 4)) (je_var 6))) (ja_nil)))))) (jss_one (js_frz 5 (js_expr (je_mL PySem.F.slot_list_append PySem.F.type_list_append mt_append mtl_app (je_var 3) (ja_cons (je_var 5) (ja_nil))))))))) (jss_one (js_ret (je_var 3))))))) rd_run⟩
theorem ok_point_table {P : Program} {w : World} {K : PySem.W.Frag} {mg : Str → Option Value} {base : Heap} (T : Txt K mg) : Ok P w K mg base "point_table" 1 ["point", "p"] C_point_table := by
  obtain ⟨f, fd, F, hm, b⟩ := T.d_point_table
  exact ⟨f, fd, hm, F.kp, b, okD (W := W_point_table) (k := 0) F sc_point_table (fun cdv A outer s H E hr => jss_cons (js_set 2 sc_point_table.nd rfl (Or.inl rfl) (je_lst (ja_cons (je_op op_mod opl_mod (je_int) (je_var 1)) (ja_nil)))) (jss_cons (js_for passD rfl (ji_list (je_var 0)) (jg_name (js := [3]) 3 (by decide) sc_point_table.nd rfl (Or.inr rfl)) (jss_cons (js_setLc (own := [("entry", 6)]) 4 rfl sc_point_table.nd rfl rfl (sw_true rfl rfl rfl (by decide +kernel)) (ji_list (je_var 2)) (blkOk_by (N := ["point", "p", "table", "number", "low", "high", "entry"]) (sc := defScope s_point_table) (by decide +kernel)) (fun _ _ _ _ _ => jg_name (js := [6]) 6 (by decide) sc_point_table.nd rfl (Or.inl rfl)) (fun _ _ _ _ _ => jts_nil) (fun _ _ _ _ _ => je_op op_mod opl_mod (je_op op_mulC opl_mul (je_op op_sub opl_sub (je_int) (je_var 3)) (je_var 6)) (je_var 1))) (jss_cons (js_setLc (own := [("entry", 6)]) 5 rfl sc_point_table.nd rfl rfl (sw_true rfl rfl rfl (by decide +kernel)) (ji_list (je_var 2)) (blkOk_by (N := ["point", "p", "table", "number", "low", "high", "entry"]) (sc := defScope s_point_table) (by decide +kernel)) (fun _ _ _ _ _ => jg_name (js := [6]) 6 (by decide) sc_point_table.nd rfl (Or.inl rfl)) (fun _ _ _ _ _ => jts_nil) (fun _ _ _ _ _ => je_op op_mod opl_mod (je_op op_mulC opl_mul (je_var 3) (je_var 6)) (je_var 1))) (jss_one (js_set 2 sc_point_table.nd rfl (Or.inl rfl) (je_op op_addAll opl_add (je_var 4) (je_var 5))))))) (jss_one (js_ret (je_var 2))))) rd_point_table⟩
theorem ok_value_at {P : Program} {w : World} {K : PySem.W.Frag} {mg : Str → Option Value} {base : Heap} (T : Txt K mg) (G_fold : Ok P w K mg base "fold" 1 ["table", "number", "p"] C_fold) : Ok P w K mg base "value_at" 2 ["table", "point", "p"] C_value_at := by
  obtain ⟨f, fd, F, hm, b⟩ := T.d_value_at
  exact ⟨f, fd, hm, F.kp, b, okD (W := W_value_at) (k := 1) F sc_value_at (fun cdv A outer s H E hr => jss_cons (js_for passD rfl (ji_list (je_var 1)) (jg_name (js := [3]) 3 (by decide) sc_value_at.nd rfl (Or.inl rfl)) (jss_one (js_set 0 sc_value_at.nd rfl (Or.inl rfl) (je_callO G_fold takesD (hr.mono (by decide)) (by rfl) (ja_cons (je_var 0) (ja_cons (je_var 3) (ja_cons (je_var 2) (ja_nil)))) 3)))) (jss_one (js_ret (je_op op_mod opl_mod (je_ix (je_var 0) (je_int)) (je_var 2))))) rd_value_at⟩
theorem ok_fold {P : Program} {w : World} {K : PySem.W.Frag} {mg : Str → Option Value} {base : Heap} (T : Txt K mg) : Ok P w K mg base "fold" 1 ["table", "number", "p"] C_fold := by
  obtain ⟨f, fd, F, hm, b⟩ := T.d_fold
  exact ⟨f, fd, hm, F.kp, b, okD (W := W_fold) (k := 0) F sc_fold (fun cdv A outer s H E hr => jss_cons (js_set 3 sc_fold.nd rfl (Or.inl rfl) (je_op op_fdivW opl_div (je_callB call_len cbl_len (by rfl) T.n_len bt_len (ja_cons (je_var 0) (ja_nil))) (je_int))) (jss_one (js_ret (je_lc (own := [("k", 4)]) rfl sc_fold.nd (ji_range1 (by rfl) T.n_range (ja_cons (je_var 3) (ja_nil))) (blkOk_by (N := ["table", "number", "p", "half", "k"]) (sc := defScope s_fold) (by decide +kernel)) (fun _ _ _ _ _ => jg_name (js := [4]) 4 (by decide) sc_fold.nd rfl (Or.inl rfl)) (fun _ _ _ _ _ => jts_nil) (fun _ _ _ _ _ => je_op op_mod opl_mod (je_op op_addAll opl_add (je_ix (je_var 0) (je_op op_mulC opl_mul (je_int) (je_var 4))) (je_op op_mulC opl_mul (je_var 1) (je_op op_sub opl_sub (je_ix (je_var 0) (je_op op_addAll opl_add (je_op op_mulC opl_mul (je_int) (je_var 4)) (je_int))) (je_ix (je_var 0) (je_op op_mulC opl_mul (je_int) (je_var 4)))))) (je_var 2)))))) rd_fold⟩
theorem ok_weighted_gates {P : Program} {w : World} {K : PySem.W.Frag} {mg : Str → Option Value} {base : Heap} (T : Txt K mg) : Ok P w K mg base "weighted_gates" 1 ["gates", "weights", "p"] C_weighted_gates := by
  obtain ⟨f, fd, F, hm, b⟩ := T.d_weighted_gates
  exact ⟨f, fd, hm, F.kp, b, okDQ (W := W_weighted_gates) (k := 0) F sc_weighted_gates (fun cdv A outer s H E hr => jss_cons (js_set 3 sc_weighted_gates.nd rfl (Or.inl rfl) (je_lstM (ja_nil))) (jss_cons (js_for passD rfl (ji_zip (by rfl) T.n_zip (ja_cons (je_var 0) (ja_cons (je_var 1) (ja_nil)))) (jg_tup (js := [4, 5]) [4, 5] rfl (by decide) (pgs_cons (pg_name (i := 4) sc_weighted_gates.nd rfl (Or.inl rfl)) (pgs_cons (pg_name (i := 5) sc_weighted_gates.nd rfl (Or.inl rfl)) (pgs_nil)))) (jss_one (js_if (jt_cmp (op_eqD hr.units) opl_eq (je_ix (je_var 4) (je_int)) (je_str) (nomark _)) (jss_one (js_expr (je_mL PySem.F.slot_list_append PySem.F.type_list_append mt_append mtl_app (je_var 3) (ja_cons (je_tup (ja_cons (je_op op_mod opl_mod (je_op op_mulC opl_mul (je_ix (je_var 4) (je_int)) (je_var 5)) (je_var 2)) (ja_cons (je_op op_mod opl_mod (je_op op_mulC opl_mul (je_ix (je_var 4) (je_int)) (je_var 5)) (je_var 2)) (ja_cons (je_int) (ja_cons (je_ix (je_var 4) (je_int)) (ja_cons (je_ix (je_var 4) (je_int)) (ja_nil))))))) (ja_nil))))) (jss_one (js_expr (je_mL PySem.F.slot_list_append PySem.F.type_list_append mt_append mtl_app (je_var 3) (ja_cons (je_tup (ja_cons (je_int) (ja_cons (je_int) (ja_cons (je_op op_mod opl_mod (je_op op_mulC opl_mul (je_ix (je_var 4) (je_int)) (je_var 5)) (je_var 2)) (ja_cons (je_ix (je_var 4) (je_int)) (ja_cons (je_ix (je_var 4) (je_int)) (ja_nil))))))) (ja_nil)))))))) (jss_one (js_ret (je_var 3))))) rd_weighted_gates⟩
theorem ok_gates_sum {P : Program} {w : World} {K : PySem.W.Frag} {mg : Str → Option Value} {base : Heap} (T : Txt K mg) : Ok P w K mg base "gates_sum" 1 ["gates", "columns", "p"] C_gates_sum := by
  obtain ⟨f, fd, F, hm, b⟩ := T.d_gates_sum
  exact ⟨f, fd, hm, F.kp, b, okD (W := W_gates_sum) (k := 0) F sc_gates_sum (fun cdv A outer s H E hr => jss_cons (js_set 3 sc_gates_sum.nd rfl (Or.inl rfl) (je_int)) (jss_cons (js_for passD rfl (ji_list (je_var 0)) (jg_tup (js := [4, 5, 6, 7, 8]) [4, 5, 6, 7, 8] rfl (by decide) (pgs_cons (pg_name (i := 4) sc_gates_sum.nd rfl (Or.inl rfl)) (pgs_cons (pg_name (i := 5) sc_gates_sum.nd rfl (Or.inl rfl)) (pgs_cons (pg_name (i := 6) sc_gates_sum.nd rfl (Or.inl rfl)) (pgs_cons (pg_name (i := 7) sc_gates_sum.nd rfl (Or.inl rfl)) (pgs_cons (pg_name (i := 8) sc_gates_sum.nd rfl (Or.inl rfl)) (pgs_nil))))))) (jss_one (js_aug 3 sc_gates_sum.nd rfl (Or.inl rfl) (je_op op_addAll opl_add (je_op op_addAll opl_add (je_op op_mulC opl_mul (je_var 4) (je_ix (je_var 1) (je_var 7))) (je_op op_mulC opl_mul (je_var 5) (je_ix (je_var 1) (je_var 8)))) (je_op op_mulC opl_mul (je_op op_mod opl_mod (je_op op_mulC opl_mul (je_var 6) (je_ix (je_var 1) (je_var 7))) (je_var 2)) (je_ix (je_var 1) (je_var 8)))) iop_add opl_addI))) (jss_one (js_ret (je_op op_mod opl_mod (je_var 3) (je_var 2)))))) rd_gates_sum⟩
theorem ok_at_number {P : Program} {w : World} {K : PySem.W.Frag} {mg : Str → Option Value} {base : Heap} (T : Txt K mg) : Ok P w K mg base "at_number" 1 ["table", "k", "number"] C_at_number := by
  obtain ⟨f, fd, F, hm, b⟩ := T.d_at_number
  exact ⟨f, fd, hm, F.kp, b, okD (W := W_at_number) (k := 0) F sc_at_number (fun cdv A outer s H E hr => jss_one (js_ret (je_op op_addAll opl_add (je_ix (je_var 0) (je_op op_mulC opl_mul (je_int) (je_var 1))) (je_op op_mulC opl_mul (je_var 2) (je_op op_sub opl_sub (je_ix (je_var 0) (je_op op_addAll opl_add (je_op op_mulC opl_mul (je_int) (je_var 1)) (je_int))) (je_ix (je_var 0) (je_op op_mulC opl_mul (je_int) (je_var 1)))))))) rd_at_number⟩
theorem ok_I_Answerer {P : Program} {w : World} {K : PySem.W.Frag} {mg : Str → Option Value} {base : Heap} (T : Txt K mg) (G_run : Ok P w K mg base "run" 5 ["circuit", "rows"] C_run) (G_row_bits : Ok P w K mg base "row_bits" 1 ["rows"] C_row_bits) (G_modulus : Ok P w K mg base "modulus" 1 ["circuit"] C_modulus) : OkI P w K mg base "Answerer" 6 ["self", "circuit", "rows"] C_Answerer_init := by
  obtain ⟨f, fd, F, hm, M, b⟩ := T.mi_Answerer
  exact ⟨f, fd, hm, M, b, okD (W := (W_Answerer_init flT)) (k := 5) F sc_Answerer_init (fun cdv A outer s H E hr => jss_cons (js_fld (f_circuit_fl T) (je_var 0) (je_var 1)) (jss_cons (js_fld (f_tables_fl T) (je_var 0) (je_callO G_run takesD (hr.mono (by decide)) (by rfl) (ja_cons (je_var 1) (ja_cons (je_var 2) (ja_nil))) 2)) (jss_cons (js_fld (f_bits_fl T) (je_var 0) (je_callO G_row_bits takesD (hr.mono (by decide)) (by rfl) (ja_cons (je_var 2) (ja_nil)) 1)) (jss_cons (js_fld (f_p_fl T) (je_var 0) (je_callO G_modulus takesD (hr.mono (by decide)) (by rfl) (ja_cons (je_var 1) (ja_nil)) 1)) (jss_one (js_fld (f_steps_fl T) (je_var 0) (je_int))))))) (rd_Answerer_init fl_Answerer)⟩
theorem ok_M_Answerer_outputs {P : Program} {w : World} {K : PySem.W.Frag} {mg : Str → Option Value} {base : Heap} (T : Txt K mg) : OkM P w K base mg "Answerer" "outputs" 1 ["self"] C_Answerer_outputs := by
  obtain ⟨f, fd, F, hc, hm, b⟩ := T.mm_Answerer_outputs
  exact ⟨f, fd, hc, hm, b, okD (W := (W_Answerer_outputs flT)) (k := 0) F sc_Answerer_outputs (fun cdv A outer s H E hr => jss_one (js_ret (je_callTy call_list_of cbl_list (by rfl) T.n_list bt_list (ja_cons (je_ix (je_fld (f_tables_fl T) (je_var 0)) (je_int)) (ja_nil))))) (rd_Answerer_outputs fl_Answerer)⟩
theorem ok_M_Answerer_begin {P : Program} {w : World} {K : PySem.W.Frag} {mg : Str → Option Value} {base : Heap} (T : Txt K mg) (G_point_table : Ok P w K mg base "point_table" 1 ["point", "p"] C_point_table) (G_width : Ok P w K mg base "width" 1 ["circuit", "layer"] C_width) (G_weighted_gates : Ok P w K mg base "weighted_gates" 1 ["gates", "weights", "p"] C_weighted_gates) (G_M_Answerer_turn : OkM P w K base mg "Answerer" "turn" 3 ["self"] C_Answerer_turn) : OkM P w K base mg "Answerer" "begin" 4 ["self", "layer", "point"] C_Answerer_begin := by
  obtain ⟨f, fd, F, hc, hm, b⟩ := T.mm_Answerer_begin
  exact ⟨f, fd, hc, hm, b, okD (W := (W_Answerer_begin flT)) (k := 3) F sc_Answerer_begin (fun cdv A outer s H E hr => jss_cons (js_set 3 sc_Answerer_begin.nd rfl (Or.inl rfl) (je_fld (f_p_fl T) (je_var 0))) (jss_cons (js_set 4 sc_Answerer_begin.nd rfl (Or.inr rfl) (je_op op_shl opl_shl (je_int) (je_fld (f_bits_fl T) (je_var 0)))) (jss_cons (js_set 5 sc_Answerer_begin.nd rfl (Or.inl rfl) (je_callO G_point_table takesD (hr.mono (by decide)) (by rfl) (ja_cons (je_sl (je_var 2) (jo_some (je_fld (f_bits_fl T) (je_var 0))) (jo_none)) (ja_cons (je_var 3) (ja_nil))) 2)) (jss_cons (js_set 6 sc_Answerer_begin.nd rfl (Or.inr rfl) (je_ix (je_fld (f_tables_fl T) (je_var 0)) (je_op op_addAll opl_add (je_var 1) (je_int)))) (jss_cons (js_fld (f_layer_fl T) (je_var 0) (je_var 1)) (jss_cons (js_fld (f_round_fl T) (je_var 0) (je_int)) (jss_cons (js_fld (f_wide_fl T) (je_var 0) (je_callO G_width takesD (hr.mono (by decide)) (by rfl) (ja_cons (je_fld (f_circuit_fl T) (je_var 0)) (ja_cons (je_op op_addAll opl_add (je_var 1) (je_int)) (ja_nil))) 2)) (jss_cons (js_fld (f_gates_fl T) (je_var 0) (je_callO G_weighted_gates takesD (hr.mono (by decide)) (by rfl) (ja_cons (je_ix (je_ix (je_fld (f_circuit_fl T) (je_var 0)) (je_int)) (je_var 1)) (ja_cons (je_var 5) (ja_cons (je_var 3) (ja_nil)))) 3)) (jss_cons (js_fld (f_near_fl T) (je_var 0) (je_callO G_point_table takesD (hr.mono (by decide)) (by rfl) (ja_cons (je_sl (je_var 2) (jo_none) (jo_some (je_fld (f_bits_fl T) (je_var 0)))) (ja_cons (je_var 3) (ja_nil))) 2)) (jss_cons (js_fld (f_columns_fl T) (je_var 0) (je_lc (own := [("k", 7)]) rfl sc_Answerer_begin.nd (ji_range1 (by rfl) T.n_range (ja_cons (je_op op_shl opl_shl (je_int) (je_fld (f_wide_fl T) (je_var 0))) (ja_nil))) (blkOk_by (N := ["self", "layer", "point", "p", "many", "weights", "below", "k"]) (sc := defScope s_Answerer_begin) (by decide +kernel)) (fun _ _ _ _ _ => jg_name (js := [7]) 7 (by decide) sc_Answerer_begin.nd rfl (Or.inl rfl)) (fun _ _ _ _ _ => jts_nil) (fun _ _ _ _ _ => je_sl (je_var 6) (jo_some (je_op op_mulC opl_mul (je_var 4) (je_var 7))) (jo_some (je_op op_mulC opl_mul (je_var 4) (je_op op_addAll opl_add (je_var 7) (je_int))))))) (jss_cons (js_fld (f_first_fl T) (je_var 0) (je_lst (ja_nil))) (jss_cons (js_fld (f_second_fl T) (je_var 0) (je_lst (ja_nil))) (jss_one (js_expr (je_meth0 (mn := "turn") (lv := 3) (tab := [("Answerer", C_Answerer_turn)]) (okMs_cons G_M_Answerer_turn rfl (by decide) okMs_nil) takesD (hr.mono (by decide)) (je_var 0)))))))))))))))) (rd_Answerer_begin fl_Answerer)⟩
theorem ok_M_Answerer_turn {P : Program} {w : World} {K : PySem.W.Frag} {mg : Str → Option Value} {base : Heap} (T : Txt K mg) (G_M_Answerer_first_tables : OkM P w K base mg "Answerer" "first_tables" 1 ["self"] C_Answerer_first_tables) (G_M_Answerer_second_tables : OkM P w K base mg "Answerer" "second_tables" 2 ["self", "value"] C_Answerer_second_tables) : OkM P w K base mg "Answerer" "turn" 3 ["self"] C_Answerer_turn := by
  obtain ⟨f, fd, F, hc, hm, b⟩ := T.mm_Answerer_turn
  exact ⟨f, fd, hc, hm, b, okD (W := (W_Answerer_turn flT)) (k := 2) F sc_Answerer_turn (fun cdv A outer s H E hr => jss_cons (js_if (jt_cmp (op_eqD hr.units) opl_eq (je_fld (f_round_fl T) (je_var 0)) (je_fld (f_bits_fl T) (je_var 0)) (nomark _)) (jss_cons (js_fld (f_share_fl T) (je_var 0) (je_ix (je_fld (f_near_fl T) (je_var 0)) (je_int))) (jss_cons (js_fld (f_below_fl T) (je_var 0) (je_lc (own := [("column", 1)]) rfl sc_Answerer_turn.nd (ji_list (je_fld (f_columns_fl T) (je_var 0))) (blkOk_by (N := ["self", "column"]) (sc := defScope s_Answerer_turn) (by decide +kernel)) (fun _ _ _ _ _ => jg_name (js := [1]) 1 (by decide) sc_Answerer_turn.nd rfl (Or.inl rfl)) (fun _ _ _ _ _ => jts_nil) (fun _ _ _ _ _ => je_ix (je_var 1) (je_int)))) (jss_cons (js_asg (je_meth0 (mn := "first_tables") (lv := 1) (tab := [("Answerer", C_Answerer_first_tables)]) (okMs_cons G_M_Answerer_first_tables rfl (by decide) okMs_nil) takesD (hr.mono (by decide)) (je_var 0)) (jg_tupG (js := []) (n := 2) rfl (jgs_cons (jg_fld (E := EF) (js := []) (f_factors_fl T) (je_var 0)) (jgs_cons (jg_fld (E := EF) (js := []) (f_rest_fl T) (je_var 0)) (jgs_nil))))) (jss_one (js_fld (f_left_fl T) (je_var 0) (je_callTy call_list_of cbl_list (by rfl) T.n_list bt_list (ja_cons (je_fld (f_below_fl T) (je_var 0)) (ja_nil)))))))) (jss_nil)) (jss_one (js_if (jt_cmp (op_eqD hr.units) opl_eq (je_fld (f_round_fl T) (je_var 0)) (je_op op_addAll opl_add (je_fld (f_bits_fl T) (je_var 0)) (je_fld (f_wide_fl T) (je_var 0))) (nomark _)) (jss_cons (js_asg (je_meth (mn := "second_tables") (lv := 2) (n := 1) (tab := [("Answerer", C_Answerer_second_tables)]) (okMs_cons G_M_Answerer_second_tables rfl (by decide) okMs_nil) takesD (hr.mono (by decide)) (je_var 0) (ja_cons (je_ix (je_fld (f_left_fl T) (je_var 0)) (je_int)) (ja_nil))) (jg_tupG (js := []) (n := 2) rfl (jgs_cons (jg_fld (E := EF) (js := []) (f_factors_fl T) (je_var 0)) (jgs_cons (jg_fld (E := EF) (js := []) (f_rest_fl T) (je_var 0)) (jgs_nil))))) (jss_one (js_fld (f_left_fl T) (je_var 0) (je_callTy call_list_of cbl_list (by rfl) T.n_list bt_list (ja_cons (je_fld (f_below_fl T) (je_var 0)) (ja_nil)))))) (jss_nil)))) (rd_Answerer_turn fl_Answerer)⟩
theorem ok_M_Answerer_first_tables {P : Program} {w : World} {K : PySem.W.Frag} {mg : Str → Option Value} {base : Heap} (T : Txt K mg) : OkM P w K base mg "Answerer" "first_tables" 1 ["self"] C_Answerer_first_tables := by
  obtain ⟨f, fd, F, hc, hm, b⟩ := T.mm_Answerer_first_tables
  exact ⟨f, fd, hc, hm, b, okDQ (W := (W_Answerer_first_tables flT)) (k := 0) F sc_Answerer_first_tables (fun cdv A outer s H E hr => jss_cons (js_set 1 sc_Answerer_first_tables.nd rfl (Or.inl rfl) (je_fld (f_p_fl T) (je_var 0))) (jss_cons (js_set 2 sc_Answerer_first_tables.nd rfl (Or.inl rfl) (je_op op_rep opl_repM (je_lst (ja_cons (je_int) (ja_nil))) (je_callB call_len cbl_len (by rfl) T.n_len bt_len (ja_cons (je_fld (f_below_fl T) (je_var 0)) (ja_nil))))) (jss_cons (js_set 3 sc_Answerer_first_tables.nd rfl (Or.inl rfl) (je_op op_rep opl_repM (je_lst (ja_cons (je_int) (ja_nil))) (je_callB call_len cbl_len (by rfl) T.n_len bt_len (ja_cons (je_fld (f_below_fl T) (je_var 0)) (ja_nil))))) (jss_cons (js_for passD rfl (ji_list (je_fld (f_gates_fl T) (je_var 0))) (jg_tup (js := [4, 5, 6, 7, 8]) [4, 5, 6, 7, 8] rfl (by decide) (pgs_cons (pg_name (i := 4) sc_Answerer_first_tables.nd rfl (Or.inl rfl)) (pgs_cons (pg_name (i := 5) sc_Answerer_first_tables.nd rfl (Or.inl rfl)) (pgs_cons (pg_name (i := 6) sc_Answerer_first_tables.nd rfl (Or.inl rfl)) (pgs_cons (pg_name (i := 7) sc_Answerer_first_tables.nd rfl (Or.inl rfl)) (pgs_cons (pg_name (i := 8) sc_Answerer_first_tables.nd rfl (Or.inl rfl)) (pgs_nil))))))) (jss_cons (js_setIx (je_op op_mod opl_mod (je_op op_addAll opl_add (je_op op_addAll opl_add (je_ix (je_var 2) (je_var 7)) (je_var 4)) (je_op op_mulC opl_mul (je_var 6) (je_ix (je_fld (f_below_fl T) (je_var 0)) (je_var 8)))) (je_var 1)) (je_var 2) (je_var 7) (pg_sub (je_var 2) (je_var 7) set_list)) (jss_one (js_setIx (je_op op_mod opl_mod (je_op op_addAll opl_add (je_ix (je_var 3) (je_var 7)) (je_op op_mulC opl_mul (je_var 5) (je_ix (je_fld (f_below_fl T) (je_var 0)) (je_var 8)))) (je_var 1)) (je_var 3) (je_var 7) (pg_sub (je_var 3) (je_var 7) set_list))))) (jss_cons (js_augF (g := (fun i j => i + j)) L2.in_add rAdd_ok (f_steps_fl T) (je_var 0) (je_callB call_len cbl_len (by rfl) T.n_len bt_len (ja_cons (je_fld (f_gates_fl T) (je_var 0)) (ja_nil)))) (jss_one (js_frz 3 (js_frz 2 (js_ret (je_tup (ja_cons (je_var 2) (ja_cons (je_var 3) (ja_nil))))))))))))) (rd_Answerer_first_tables fl_Answerer)⟩
theorem ok_M_Answerer_second_tables {P : Program} {w : World} {K : PySem.W.Frag} {mg : Str → Option Value} {base : Heap} (T : Txt K mg) (G_point_table : Ok P w K mg base "point_table" 1 ["point", "p"] C_point_table) : OkM P w K base mg "Answerer" "second_tables" 2 ["self", "value"] C_Answerer_second_tables := by
  obtain ⟨f, fd, F, hc, hm, b⟩ := T.mm_Answerer_second_tables
  exact ⟨f, fd, hc, hm, b, okDQ (W := (W_Answerer_second_tables flT)) (k := 1) F sc_Answerer_second_tables (fun cdv A outer s H E hr => jss_cons (js_set 2 sc_Answerer_second_tables.nd rfl (Or.inl rfl) (je_fld (f_p_fl T) (je_var 0))) (jss_cons (js_set 3 sc_Answerer_second_tables.nd rfl (Or.inl rfl) (je_callO G_point_table takesD (hr.mono (by decide)) (by rfl) (ja_cons (je_fld (f_first_fl T) (je_var 0)) (ja_cons (je_var 2) (ja_nil))) 2)) (jss_cons (js_set 4 sc_Answerer_second_tables.nd rfl (Or.inl rfl) (je_op op_rep opl_repM (je_lst (ja_cons (je_int) (ja_nil))) (je_callB call_len cbl_len (by rfl) T.n_len bt_len (ja_cons (je_fld (f_below_fl T) (je_var 0)) (ja_nil))))) (jss_cons (js_set 5 sc_Answerer_second_tables.nd rfl (Or.inl rfl) (je_op op_rep opl_repM (je_lst (ja_cons (je_int) (ja_nil))) (je_callB call_len cbl_len (by rfl) T.n_len bt_len (ja_cons (je_fld (f_below_fl T) (je_var 0)) (ja_nil))))) (jss_cons (js_for passD rfl (ji_list (je_fld (f_gates_fl T) (je_var 0))) (jg_tup (js := [6, 7, 8, 9, 10]) [6, 7, 8, 9, 10] rfl (by decide) (pgs_cons (pg_name (i := 6) sc_Answerer_second_tables.nd rfl (Or.inl rfl)) (pgs_cons (pg_name (i := 7) sc_Answerer_second_tables.nd rfl (Or.inl rfl)) (pgs_cons (pg_name (i := 8) sc_Answerer_second_tables.nd rfl (Or.inl rfl)) (pgs_cons (pg_name (i := 9) sc_Answerer_second_tables.nd rfl (Or.inl rfl)) (pgs_cons (pg_name (i := 10) sc_Answerer_second_tables.nd rfl (Or.inl rfl)) (pgs_nil))))))) (jss_cons (js_setIx (je_op op_mod opl_mod (je_op op_addAll opl_add (je_ix (je_var 4) (je_var 10)) (je_op op_mulC opl_mul (je_ix (je_var 3) (je_var 9)) (je_op op_addAll opl_add (je_var 7) (je_op op_mulC opl_mul (je_var 8) (je_var 1))))) (je_var 2)) (je_var 4) (je_var 10) (pg_sub (je_var 4) (je_var 10) set_list)) (jss_one (js_setIx (je_op op_mod opl_mod (je_op op_addAll opl_add (je_ix (je_var 5) (je_var 10)) (je_op op_mulC opl_mul (je_op op_mod opl_mod (je_op op_mulC opl_mul (je_ix (je_var 3) (je_var 9)) (je_var 6)) (je_var 2)) (je_var 1))) (je_var 2)) (je_var 5) (je_var 10) (pg_sub (je_var 5) (je_var 10) set_list))))) (jss_cons (js_augF (g := (fun i j => i + j)) L2.in_add rAdd_ok (f_steps_fl T) (je_var 0) (je_callB call_len cbl_len (by rfl) T.n_len bt_len (ja_cons (je_fld (f_gates_fl T) (je_var 0)) (ja_nil)))) (jss_one (js_frz 5 (js_frz 4 (js_ret (je_tup (ja_cons (je_var 4) (ja_cons (je_var 5) (ja_nil)))))))))))))) (rd_Answerer_second_tables fl_Answerer)⟩
theorem ok_M_Answerer_row_value {P : Program} {w : World} {K : PySem.W.Frag} {mg : Str → Option Value} {base : Heap} (T : Txt K mg) (G_gates_sum : Ok P w K mg base "gates_sum" 1 ["gates", "columns", "p"] C_gates_sum) (G_at_number : Ok P w K mg base "at_number" 1 ["table", "k", "number"] C_at_number) : OkM P w K base mg "Answerer" "row_value" 2 ["self", "number"] C_Answerer_row_value := by
  obtain ⟨f, fd, F, hc, hm, b⟩ := T.mm_Answerer_row_value
  exact ⟨f, fd, hc, hm, b, okD (W := (W_Answerer_row_value flT)) (k := 1) F sc_Answerer_row_value (fun cdv A outer s H E hr => jss_cons (js_set 2 sc_Answerer_row_value.nd rfl (Or.inr rfl) (je_fld (f_p_fl T) (je_var 0))) (jss_cons (js_set 3 sc_Answerer_row_value.nd rfl (Or.inl rfl) (je_int)) (jss_cons (js_for passD rfl (ji_range1 (by rfl) T.n_range (ja_cons (je_op op_fdivW opl_div (je_callB call_len cbl_len (by rfl) T.n_len bt_len (ja_cons (je_fld (f_near_fl T) (je_var 0)) (ja_nil))) (je_int)) (ja_nil))) (jg_name (js := [4]) 4 (by decide) sc_Answerer_row_value.nd rfl (Or.inr rfl)) (jss_cons (js_setLc (own := [("column", 6)]) 5 rfl sc_Answerer_row_value.nd rfl rfl (sw_true rfl rfl rfl (by decide +kernel)) (ji_list (je_fld (f_columns_fl T) (je_var 0))) (blkOk_by (N := ["self", "number", "p", "total", "k", "columns", "column"]) (sc := defScope s_Answerer_row_value) (by decide +kernel)) (fun _ _ _ _ _ => jg_name (js := [6]) 6 (by decide) sc_Answerer_row_value.nd rfl (Or.inl rfl)) (fun _ _ _ _ _ => jts_nil) (fun _ _ _ _ _ => je_op op_mod opl_mod (je_callO G_at_number takes0 (hr.mono (by decide)) (by rfl) (ja_cons (je_var 6) (ja_cons (je_var 4) (ja_cons (je_var 1) (ja_nil)))) 3) (je_var 2))) (jss_cons (js_aug 3 sc_Answerer_row_value.nd rfl (Or.inl rfl) (je_op op_mulC opl_mul (je_op op_mod opl_mod (je_callO G_at_number takesD (hr.mono (by decide)) (by rfl) (ja_cons (je_fld (f_near_fl T) (je_var 0)) (ja_cons (je_var 4) (ja_cons (je_var 1) (ja_nil)))) 3) (je_var 2)) (je_callO G_gates_sum takesD (hr.mono (by decide)) (by rfl) (ja_cons (je_fld (f_gates_fl T) (je_var 0)) (ja_cons (je_var 5) (ja_cons (je_var 2) (ja_nil)))) 3)) iop_add opl_addI) (jss_one (js_augF (g := (fun i j => i + j)) L2.in_add rAdd_ok (f_steps_fl T) (je_var 0) (je_op op_addAll opl_add (je_callB call_len cbl_len (by rfl) T.n_len bt_len (ja_cons (je_fld (f_gates_fl T) (je_var 0)) (ja_nil))) (je_callB call_len cbl_len (by rfl) T.n_len bt_len (ja_cons (je_var 5) (ja_nil))))))))) (jss_one (js_ret (je_op op_mod opl_mod (je_var 3) (je_var 2))))))) (rd_Answerer_row_value fl_Answerer)⟩
theorem ok_M_Answerer_column_value {P : Program} {w : World} {K : PySem.W.Frag} {mg : Str → Option Value} {base : Heap} (T : Txt K mg) (G_at_number : Ok P w K mg base "at_number" 1 ["table", "k", "number"] C_at_number) : OkM P w K base mg "Answerer" "column_value" 2 ["self", "number"] C_Answerer_column_value := by
  obtain ⟨f, fd, F, hc, hm, b⟩ := T.mm_Answerer_column_value
  exact ⟨f, fd, hc, hm, b, okD (W := (W_Answerer_column_value flT)) (k := 1) F sc_Answerer_column_value (fun cdv A outer s H E hr => jss_cons (js_set 2 sc_Answerer_column_value.nd rfl (Or.inl rfl) (je_fld (f_p_fl T) (je_var 0))) (jss_cons (js_set 3 sc_Answerer_column_value.nd rfl (Or.inl rfl) (je_int)) (jss_cons (js_for passD rfl (ji_range1 (by rfl) T.n_range (ja_cons (je_op op_fdivW opl_div (je_callB call_len cbl_len (by rfl) T.n_len bt_len (ja_cons (je_fld (f_left_fl T) (je_var 0)) (ja_nil))) (je_int)) (ja_nil))) (jg_name (js := [4]) 4 (by decide) sc_Answerer_column_value.nd rfl (Or.inl rfl)) (jss_cons (js_aug 3 sc_Answerer_column_value.nd rfl (Or.inl rfl) (je_op op_mulC opl_mul (je_callO G_at_number takesD (hr.mono (by decide)) (by rfl) (ja_cons (je_fld (f_factors_fl T) (je_var 0)) (ja_cons (je_var 4) (ja_cons (je_var 1) (ja_nil)))) 3) (je_callO G_at_number takesD (hr.mono (by decide)) (by rfl) (ja_cons (je_fld (f_left_fl T) (je_var 0)) (ja_cons (je_var 4) (ja_cons (je_var 1) (ja_nil)))) 3)) iop_add opl_addI) (jss_cons (js_aug 3 sc_Answerer_column_value.nd rfl (Or.inl rfl) (je_callO G_at_number takesD (hr.mono (by decide)) (by rfl) (ja_cons (je_fld (f_rest_fl T) (je_var 0)) (ja_cons (je_var 4) (ja_cons (je_var 1) (ja_nil)))) 3) iop_add opl_addI) (jss_one (js_augF (g := (fun i j => i + j)) L2.in_add rAdd_ok (f_steps_fl T) (je_var 0) (je_int)))))) (jss_one (js_ret (je_op op_mod opl_mod (je_op op_mulC opl_mul (je_var 3) (je_fld (f_share_fl T) (je_var 0))) (je_var 2))))))) (rd_Answerer_column_value fl_Answerer)⟩
theorem ok_M_Answerer_poly {P : Program} {w : World} {K : PySem.W.Frag} {mg : Str → Option Value} {base : Heap} (T : Txt K mg) (G_M_Answerer_column_value : OkM P w K base mg "Answerer" "column_value" 2 ["self", "number"] C_Answerer_column_value) (G_M_Answerer_row_value : OkM P w K base mg "Answerer" "row_value" 2 ["self", "number"] C_Answerer_row_value) : OkM P w K base mg "Answerer" "poly" 3 ["self"] C_Answerer_poly := by
  obtain ⟨f, fd, F, hc, hm, b⟩ := T.mm_Answerer_poly
  exact ⟨f, fd, hc, hm, b, okD (W := (W_Answerer_poly flT)) (k := 2) F sc_Answerer_poly (fun cdv A outer s H E hr => jss_cons (js_if (jt_cmp op_lt opl_lt (je_fld (f_round_fl T) (je_var 0)) (je_fld (f_bits_fl T) (je_var 0)) (nomark _)) (jss_one (js_ret (je_lcS (own := [("number", 1)]) rfl sc_Answerer_poly.nd (ji_range1 (by rfl) T.n_range (ja_cons (je_int) (ja_nil))) (blkOk_by (N := ["self", "number"]) (sc := defScope s_Answerer_poly) (by decide +kernel)) (fun _ _ _ _ _ => jg_name (js := [1]) 1 (by decide) sc_Answerer_poly.nd rfl (Or.inl rfl)) (fun _ _ _ _ _ => jts_nil) (fun _ _ _ _ _ => je_meth (mn := "row_value") (lv := 2) (n := 1) (tab := [("Answerer", C_Answerer_row_value)]) (okMs_cons G_M_Answerer_row_value rfl (by decide) okMs_nil) takes0 (hr.mono (by decide)) (je_var 0) (ja_cons (je_var 1) (ja_nil)))))) (jss_nil)) (jss_one (js_ret (je_lcS (own := [("number", 1)]) rfl sc_Answerer_poly.nd (ji_range1 (by rfl) T.n_range (ja_cons (je_int) (ja_nil))) (blkOk_by (N := ["self", "number"]) (sc := defScope s_Answerer_poly) (by decide +kernel)) (fun _ _ _ _ _ => jg_name (js := [1]) 1 (by decide) sc_Answerer_poly.nd rfl (Or.inl rfl)) (fun _ _ _ _ _ => jts_nil) (fun _ _ _ _ _ => je_meth (mn := "column_value") (lv := 2) (n := 1) (tab := [("Answerer", C_Answerer_column_value)]) (okMs_cons G_M_Answerer_column_value rfl (by decide) okMs_nil) takes0 (hr.mono (by decide)) (je_var 0) (ja_cons (je_var 1) (ja_nil))))))) (rd_Answerer_poly fl_Answerer)⟩
theorem ok_M_Answerer_throw {P : Program} {w : World} {K : PySem.W.Frag} {mg : Str → Option Value} {base : Heap} (T : Txt K mg) (G_M_Answerer_turn : OkM P w K base mg "Answerer" "turn" 3 ["self"] C_Answerer_turn) (G_fold : Ok P w K mg base "fold" 1 ["table", "number", "p"] C_fold) : OkM P w K base mg "Answerer" "throw" 4 ["self", "number"] C_Answerer_throw := by
  obtain ⟨f, fd, F, hc, hm, b⟩ := T.mm_Answerer_throw
  exact ⟨f, fd, hc, hm, b, okD (W := (W_Answerer_throw flT)) (k := 3) F sc_Answerer_throw (fun cdv A outer s H E hr => jss_cons (js_set 2 sc_Answerer_throw.nd rfl (Or.inr rfl) (je_fld (f_p_fl T) (je_var 0))) (jss_cons (js_if (jt_cmp op_lt opl_lt (je_fld (f_round_fl T) (je_var 0)) (je_fld (f_bits_fl T) (je_var 0)) (nomark _)) (jss_cons (js_fld (f_near_fl T) (je_var 0) (je_callO G_fold takesD (hr.mono (by decide)) (by rfl) (ja_cons (je_fld (f_near_fl T) (je_var 0)) (ja_cons (je_var 1) (ja_cons (je_var 2) (ja_nil)))) 3)) (jss_one (js_fld (f_columns_fl T) (je_var 0) (je_lc (own := [("column", 3)]) rfl sc_Answerer_throw.nd (ji_list (je_fld (f_columns_fl T) (je_var 0))) (blkOk_by (N := ["self", "number", "p", "column"]) (sc := defScope s_Answerer_throw) (by decide +kernel)) (fun _ _ _ _ _ => jg_name (js := [3]) 3 (by decide) sc_Answerer_throw.nd rfl (Or.inl rfl)) (fun _ _ _ _ _ => jts_nil) (fun _ _ _ _ _ => je_callO G_fold takes0 (hr.mono (by decide)) (by rfl) (ja_cons (je_var 3) (ja_cons (je_var 1) (ja_cons (je_var 2) (ja_nil)))) 3))))) (jss_one (js_if (jt_cmp op_lt opl_lt (je_fld (f_round_fl T) (je_var 0)) (je_op op_addAll opl_add (je_fld (f_bits_fl T) (je_var 0)) (je_op op_mulC opl_mul (je_int) (je_fld (f_wide_fl T) (je_var 0)))) (nomark _)) (jss_cons (js_fld (f_factors_fl T) (je_var 0) (je_callO G_fold takesD (hr.mono (by decide)) (by rfl) (ja_cons (je_fld (f_factors_fl T) (je_var 0)) (ja_cons (je_var 1) (ja_cons (je_var 2) (ja_nil)))) 3)) (jss_cons (js_fld (f_rest_fl T) (je_var 0) (je_callO G_fold takesD (hr.mono (by decide)) (by rfl) (ja_cons (je_fld (f_rest_fl T) (je_var 0)) (ja_cons (je_var 1) (ja_cons (je_var 2) (ja_nil)))) 3)) (jss_cons (js_fld (f_left_fl T) (je_var 0) (je_callO G_fold takesD (hr.mono (by decide)) (by rfl) (ja_cons (je_fld (f_left_fl T) (je_var 0)) (ja_cons (je_var 1) (ja_cons (je_var 2) (ja_nil)))) 3)) (jss_one (js_if (jt_cmp op_lt opl_lt (je_fld (f_round_fl T) (je_var 0)) (je_op op_addAll opl_add (je_fld (f_bits_fl T) (je_var 0)) (je_fld (f_wide_fl T) (je_var 0))) (nomark _)) (jss_one (js_fld (f_first_fl T) (je_var 0) (je_op op_addAll opl_add (je_fld (f_first_fl T) (je_var 0)) (je_lst (ja_cons (je_var 1) (ja_nil)))))) (jss_one (js_fld (f_second_fl T) (je_var 0) (je_op op_addAll opl_add (je_fld (f_second_fl T) (je_var 0)) (je_lst (ja_cons (je_var 1) (ja_nil))))))))))) (jss_nil)))) (jss_cons (js_augF (g := (fun i j => i + j)) L2.in_add rAdd_ok (f_round_fl T) (je_var 0) (je_int)) (jss_one (js_expr (je_meth0 (mn := "turn") (lv := 3) (tab := [("Answerer", C_Answerer_turn)]) (okMs_cons G_M_Answerer_turn rfl (by decide) okMs_nil) takesD (hr.mono (by decide)) (je_var 0))))))) (rd_Answerer_throw fl_Answerer)⟩
theorem ok_weights_polys {P : Program} {w : World} {K : PySem.W.Frag} {mg : Str → Option Value} {base : Heap} (T : Txt K mg) (G_inverse : Ok P w K mg base "inverse" 3 ["number", "p"] C_inverse) : Ok P w K mg base "weights_polys" 4 ["many", "t", "p"] C_weights := by
  obtain ⟨f, fd, F, hm, b⟩ := T.d_weights_polys
  exact ⟨f, fd, hm, F.kp, b, okDQ (W := W_weights) (k := 3) F sc_weights_polys (fun cdv A outer s H E hr => jss_cons (js_set 3 sc_weights_polys.nd rfl (Or.inl rfl) (je_lstM (ja_nil))) (jss_cons (js_for passD rfl (ji_range1 (by rfl) T.n_range (ja_cons (je_var 0) (ja_nil))) (jg_name (js := [4]) 4 (by decide) sc_weights_polys.nd rfl (Or.inl rfl)) (jss_cons (js_set 5 sc_weights_polys.nd rfl (Or.inl rfl) (je_int)) (jss_cons (js_set 6 sc_weights_polys.nd rfl (Or.inl rfl) (je_int)) (jss_cons (js_for passD rfl (ji_range1 (by rfl) T.n_range (ja_cons (je_var 0) (ja_nil))) (jg_name (js := [7]) 7 (by decide) sc_weights_polys.nd rfl (Or.inl rfl)) (jss_one (js_if (jt_cmp (op_neD hr.units) opl_ne (je_var 7) (je_var 4) (nomark _)) (jss_cons (js_set 5 sc_weights_polys.nd rfl (Or.inl rfl) (je_op op_mod opl_mod (je_op op_mulC opl_mul (je_var 5) (je_op op_sub opl_sub (je_var 1) (je_var 7))) (je_var 2))) (jss_one (js_set 6 sc_weights_polys.nd rfl (Or.inl rfl) (je_op op_mod opl_mod (je_op op_mulC opl_mul (je_var 6) (je_op op_sub opl_sub (je_var 4) (je_var 7))) (je_var 2))))) (jss_nil)))) (jss_one (js_expr (je_mL PySem.F.slot_list_append PySem.F.type_list_append mt_append mtl_app (je_var 3) (ja_cons (je_op op_mod opl_mod (je_op op_mulC opl_mul (je_var 5) (je_callO G_inverse takesD (hr.mono (by decide)) (by rfl) (ja_cons (je_var 6) (ja_cons (je_var 2) (ja_nil))) 2)) (je_var 2)) (ja_nil))))))))) (jss_one (js_ret (je_var 3))))) rd_weights⟩
theorem ok_value {P : Program} {w : World} {K : PySem.W.Frag} {mg : Str → Option Value} {base : Heap} (T : Txt K mg) (G_weights_polys : Ok P w K mg base "weights_polys" 4 ["many", "t", "p"] C_weights) : Ok P w K mg base "value" 5 ["values", "t", "p"] C_value := by
  obtain ⟨f, fd, F, hm, b⟩ := T.d_value
  exact ⟨f, fd, hm, F.kp, b, okD (W := W_value) (k := 4) F sc_value (fun cdv A outer s H E hr => jss_cons (js_if (jt_cmp op_lt opl_lt (je_var 1) (je_callB call_len cbl_len (by rfl) T.n_len bt_len (ja_cons (je_var 0) (ja_nil))) (nomark _)) (jss_one (js_ret (je_ix (je_var 0) (je_var 1)))) (jss_nil)) (jss_cons (js_set 3 sc_value.nd rfl (Or.inl rfl) (je_int)) (jss_cons (js_for passD rfl (ji_enumerate (by rfl) T.n_enumerate (ja_cons (je_callO G_weights_polys takesD (hr.mono (by decide)) (by rfl) (ja_cons (je_callB call_len cbl_len (by rfl) T.n_len bt_len (ja_cons (je_var 0) (ja_nil))) (ja_cons (je_var 1) (ja_cons (je_var 2) (ja_nil)))) 3) (ja_nil))) (jg_tup (js := [4, 5]) [4, 5] rfl (by decide) (pgs_cons (pg_name (i := 4) sc_value.nd rfl (Or.inl rfl)) (pgs_cons (pg_name (i := 5) sc_value.nd rfl (Or.inl rfl)) (pgs_nil)))) (jss_one (js_aug 3 sc_value.nd rfl (Or.inl rfl) (je_op op_mulC opl_mul (je_ix (je_var 0) (je_var 4)) (je_var 5)) iop_add opl_addI))) (jss_one (js_ret (je_op op_mod opl_mod (je_var 3) (je_var 2))))))) rd_value⟩
theorem ok_I_Guesser {P : Program} {w : World} {K : PySem.W.Frag} {mg : Str → Option Value} {base : Heap} (T : Txt K mg) (G_I_Answerer : OkI P w K mg base "Answerer" 6 ["self", "circuit", "rows"] C_Answerer_init) : OkI P w K mg base "Guesser" 8 ["self", "circuit", "rows", "claimed", "choices"] C_Bluffer_init__g := by
  obtain ⟨f, fd, F, hm, M, b⟩ := T.mi_Guesser
  exact ⟨f, fd, hm, M, b, okD (W := (W_Bluffer_init__g flT)) (k := 7) F sc_Bluffer_init (fun cdv A outer s H E hr => jss_cons (js_fld (f_honest_fl T) (je_var 0) (je_make G_I_Answerer takesD (hr.mono (by decide)) (by rfl) (ja_cons (je_var 1) (ja_cons (je_var 2) (ja_nil))) 2)) (jss_cons (js_fld (f_circuit_fl T) (je_var 0) (je_var 1)) (jss_cons (js_fld (f_bits_fl T) (je_var 0) (je_fld (f_bits_fl T) (je_fld (f_honest_fl T) (je_var 0)))) (jss_cons (js_fld (f_p_fl T) (je_var 0) (je_fld (f_p_fl T) (je_fld (f_honest_fl T) (je_var 0)))) (jss_cons (js_fld (f_claimed_fl T) (je_var 0) (je_callTy call_list_of cbl_list (by rfl) T.n_list bt_list (ja_cons (je_var 3) (ja_nil)))) (jss_cons (js_fld (f_choices_fl T) (je_var 0) (je_callTy call_list_of cbl_list (by rfl) T.n_list bt_list (ja_cons (je_var 4) (ja_nil)))) (jss_cons (js_fld (f_used_fl T) (je_var 0) (je_int)) (jss_one (js_fld (f_claim_fl T) (je_var 0) (je_int)))))))))) (rd_Bluffer_init__g fl_BG)⟩
theorem ok_M_Guesser_outputs {P : Program} {w : World} {K : PySem.W.Frag} {mg : Str → Option Value} {base : Heap} (T : Txt K mg) : OkM P w K base mg "Guesser" "outputs" 1 ["self"] C_Bluffer_outputs__g := by
  obtain ⟨f, fd, F, hc, hm, b⟩ := T.mm_Guesser_outputs
  exact ⟨f, fd, hc, hm, b, okD (W := (W_Bluffer_outputs__g flT)) (k := 0) F sc_Bluffer_outputs (fun cdv A outer s H E hr => jss_one (js_ret (je_callTy call_list_of cbl_list (by rfl) T.n_list bt_list (ja_cons (je_fld (f_claimed_fl T) (je_var 0)) (ja_nil))))) (rd_Bluffer_outputs__g fl_BG)⟩
theorem ok_M_Guesser_choice {P : Program} {w : World} {K : PySem.W.Frag} {mg : Str → Option Value} {base : Heap} (T : Txt K mg) : OkM P w K base mg "Guesser" "choice" 1 ["self"] C_Bluffer_choice__g := by
  obtain ⟨f, fd, F, hc, hm, b⟩ := T.mm_Guesser_choice
  exact ⟨f, fd, hc, hm, b, okD (W := (W_Bluffer_choice__g flT)) (k := 0) F sc_Bluffer_choice (fun cdv A outer s H E hr => jss_cons (js_augF (g := (fun i j => i + j)) L2.in_add rAdd_ok (f_used_fl T) (je_var 0) (je_int)) (jss_cons (js_if (jt_cmp op_le opl_le (je_fld (f_used_fl T) (je_var 0)) (je_callB call_len cbl_len (by rfl) T.n_len bt_len (ja_cons (je_fld (f_choices_fl T) (je_var 0)) (ja_nil))) (nomark _)) (jss_one (js_ret (je_op op_mod opl_mod (je_ix (je_fld (f_choices_fl T) (je_var 0)) (je_op op_sub opl_sub (je_fld (f_used_fl T) (je_var 0)) (je_int))) (je_fld (f_p_fl T) (je_var 0))))) (jss_nil)) (jss_one (js_ret (je_int))))) (rd_Bluffer_choice__g fl_BG)⟩
theorem ok_M_Guesser_begin {P : Program} {w : World} {K : PySem.W.Frag} {mg : Str → Option Value} {base : Heap} (T : Txt K mg) (G_M_Answerer_begin : OkM P w K base mg "Answerer" "begin" 4 ["self", "layer", "point"] C_Answerer_begin) (G_value_at : Ok P w K mg base "value_at" 2 ["table", "point", "p"] C_value_at) : OkM P w K base mg "Guesser" "begin" 5 ["self", "layer", "point"] C_Bluffer_begin__g := by
  obtain ⟨f, fd, F, hc, hm, b⟩ := T.mm_Guesser_begin
  exact ⟨f, fd, hc, hm, b, okD (W := (W_Bluffer_begin__g flT)) (k := 4) F sc_Bluffer_begin (fun cdv A outer s H E hr => jss_cons (js_if (jt_cmp (op_eqD hr.units) opl_eq (je_var 1) (je_int) (nomark _)) (jss_one (js_fld (f_claim_fl T) (je_var 0) (je_callO G_value_at takesD (hr.mono (by decide)) (by rfl) (ja_cons (je_fld (f_claimed_fl T) (je_var 0)) (ja_cons (je_var 2) (ja_cons (je_fld (f_p_fl T) (je_var 0)) (ja_nil)))) 3))) (jss_nil)) (jss_cons (js_fld (f_layer_fl T) (je_var 0) (je_var 1)) (jss_cons (js_fld (f_point_fl T) (je_var 0) (je_callTy call_list_of cbl_list (by rfl) T.n_list bt_list (ja_cons (je_var 2) (ja_nil)))) (jss_cons (js_fld (f_throws_fl T) (je_var 0) (je_lst (ja_nil))) (jss_one (js_expr (je_meth (mn := "begin") (lv := 4) (n := 2) (tab := [("Answerer", C_Answerer_begin)]) (okMs_cons G_M_Answerer_begin rfl (by decide) okMs_nil) takesD (hr.mono (by decide)) (je_fld (f_honest_fl T) (je_var 0)) (ja_cons (je_var 1) (ja_cons (je_var 2) (ja_nil)))))))))) (rd_Bluffer_begin__g fl_BG)⟩
theorem ok_M_Guesser_throw {P : Program} {w : World} {K : PySem.W.Frag} {mg : Str → Option Value} {base : Heap} (T : Txt K mg) (G_value : Ok P w K mg base "value" 5 ["values", "t", "p"] C_value) (G_M_Answerer_throw : OkM P w K base mg "Answerer" "throw" 4 ["self", "number"] C_Answerer_throw) : OkM P w K base mg "Guesser" "throw" 6 ["self", "number"] C_Bluffer_throw__g := by
  obtain ⟨f, fd, F, hc, hm, b⟩ := T.mm_Guesser_throw
  exact ⟨f, fd, hc, hm, b, okD (W := (W_Bluffer_throw__g flT)) (k := 5) F sc_Bluffer_throw (fun cdv A outer s H E hr => jss_cons (js_fld (f_claim_fl T) (je_var 0) (je_callO G_value takesD (hr.mono (by decide)) (by rfl) (ja_cons (je_fld (f_sent_fl T) (je_var 0)) (ja_cons (je_var 1) (ja_cons (je_fld (f_p_fl T) (je_var 0)) (ja_nil)))) 3)) (jss_cons (js_fld (f_throws_fl T) (je_var 0) (je_op op_addAll opl_add (je_fld (f_throws_fl T) (je_var 0)) (je_lst (ja_cons (je_var 1) (ja_nil))))) (jss_one (js_expr (je_meth (mn := "throw") (lv := 4) (n := 1) (tab := [("Answerer", C_Answerer_throw)]) (okMs_cons G_M_Answerer_throw rfl (by decide) okMs_nil) takesD (hr.mono (by decide)) (je_fld (f_honest_fl T) (je_var 0)) (ja_cons (je_var 1) (ja_nil))))))) (rd_Bluffer_throw__g fl_BG)⟩
theorem ok_hopeful {P : Program} {w : World} {K : PySem.W.Frag} {mg : Str → Option Value} {base : Heap} (T : Txt K mg) (G_inverse : Ok P w K mg base "inverse" 3 ["number", "p"] C_inverse) : Ok P w K mg base "hopeful" 4 ["lack", "guesses", "degree", "p"] C_hopeful := by
  obtain ⟨f, fd, F, hm, b⟩ := T.d_hopeful
  exact ⟨f, fd, hm, F.kp, b, okDQ (W := W_hopeful) (k := 3) F sc_hopeful (fun cdv A outer s H E hr => jss_cons (js_set 4 sc_hopeful.nd rfl (Or.inl rfl) (je_lstM (ja_nil))) (jss_cons (js_for passD rfl (ji_range1 (by rfl) T.n_range (ja_cons (je_op op_addAll opl_add (je_var 2) (je_int)) (ja_nil))) (jg_name (js := [5]) 5 (by decide) sc_hopeful.nd rfl (Or.inl rfl)) (jss_cons (js_set 8 sc_hopeful.nd rfl (Or.inl rfl) (je_int)) (jss_cons (js_for passD rfl (ji_list (je_var 1)) (jg_name (js := [9]) 9 (by decide) sc_hopeful.nd rfl (Or.inl rfl)) (jss_one (js_set 8 sc_hopeful.nd rfl (Or.inl rfl) (je_op op_mod opl_mod (je_op op_mulC opl_mul (je_var 8) (je_op op_sub opl_sub (je_var 5) (je_var 9))) (je_var 3))))) (jss_one (js_expr (je_mL PySem.F.slot_list_append PySem.F.type_list_append mt_append mtl_app (je_var 4) (ja_cons (je_var 8) (ja_nil)))))))) (jss_cons (js_set 6 sc_hopeful.nd rfl (Or.inl rfl) (je_op op_mod opl_mod (je_op op_addAll opl_add (je_ix (je_var 4) (je_int)) (je_ix (je_var 4) (je_int))) (je_var 3))) (jss_cons (js_if (PW.pt (jw_or (jt_cmp op_gt opl_gt (je_callB call_len cbl_len (by rfl) T.n_len bt_len (ja_cons (je_var 1) (ja_nil))) (je_var 2) (nomark _)) (jw_or1 (jt_cmp (op_eqD hr.units) opl_eq (je_var 6) (je_int) (nomark _))))) (jss_one (js_ret (je_non))) (jss_nil)) (jss_cons (js_set 7 sc_hopeful.nd rfl (Or.inr rfl) (je_op op_mod opl_mod (je_op op_mulC opl_mul (je_var 0) (je_callO G_inverse takesD (hr.mono (by decide)) (by rfl) (ja_cons (je_var 6) (ja_cons (je_var 3) (ja_nil))) 2)) (je_var 3))) (jss_one (js_frz 4 (js_ret (je_lc (own := [("part", 10)]) rfl sc_hopeful.nd (ji_list (je_var 4)) (blkOk_by (N := ["lack", "guesses", "degree", "p", "values", "number", "whole", "factor", "product", "guess", "part"]) (sc := defScope s_hopeful) (by decide +kernel)) (fun _ _ _ _ _ => jg_name (js := [10]) 10 (by decide) sc_hopeful.nd rfl (Or.inl rfl)) (fun _ _ _ _ _ => jts_nil) (fun _ _ _ _ _ => je_op op_mod opl_mod (je_op op_mulC opl_mul (je_var 10) (je_var 7)) (je_var 3))))))))))) rd_hopeful⟩
theorem ok_M_Guesser_poly {P : Program} {w : World} {K : PySem.W.Frag} {mg : Str → Option Value} {base : Heap} (T : Txt K mg) (G_M_Answerer_poly : OkM P w K base mg "Answerer" "poly" 3 ["self"] C_Answerer_poly) (G_hopeful : Ok P w K mg base "hopeful" 4 ["lack", "guesses", "degree", "p"] C_hopeful) (G_M_Guesser_choice : OkM P w K base mg "Guesser" "choice" 1 ["self"] C_Bluffer_choice__g) : OkM P w K base mg "Guesser" "poly" 5 ["self"] C_Guesser_poly := by
  obtain ⟨f, fd, F, hc, hm, b⟩ := T.mm_Guesser_poly
  exact ⟨f, fd, hc, hm, b, okDQ (W := (W_Guesser_poly flT)) (k := 4) F sc_Guesser_poly (fun cdv A outer s H E hr => jss_cons (js_set 1 sc_Guesser_poly.nd rfl (Or.inr rfl) (je_meth0 (mn := "poly") (lv := 3) (tab := [("Answerer", C_Answerer_poly)]) (okMs_cons G_M_Answerer_poly rfl (by decide) okMs_nil) takesD (hr.mono (by decide)) (je_fld (f_honest_fl T) (je_var 0)))) (jss_cons (js_set 2 sc_Guesser_poly.nd rfl (Or.inl rfl) (je_op op_mod opl_mod (je_op op_sub opl_sub (je_op op_sub opl_sub (je_fld (f_claim_fl T) (je_var 0)) (je_ix (je_var 1) (je_int))) (je_ix (je_var 1) (je_int))) (je_fld (f_p_fl T) (je_var 0)))) (jss_cons (js_set 3 sc_Guesser_poly.nd rfl (Or.inl rfl) (je_op op_sub opl_sub (je_callB call_len cbl_len (by rfl) T.n_len bt_len (ja_cons (je_var 1) (ja_nil))) (je_int))) (jss_cons (js_setLcS (own := [("k", 6)]) 4 rfl sc_Guesser_poly.nd rfl rfl (sw_true rfl rfl rfl (by decide +kernel)) (ji_range1 (by rfl) T.n_range (ja_cons (je_var 3) (ja_nil))) (blkOk_by (N := ["self", "honest", "lack", "degree", "guesses", "wrong", "k"]) (sc := defScope s_Guesser_poly) (by decide +kernel)) (fun _ _ _ _ _ => jg_name (js := [6]) 6 (by decide) sc_Guesser_poly.nd rfl (Or.inl rfl)) (fun _ _ _ _ _ => jts_nil) (fun _ _ _ _ _ => je_meth0 (mn := "choice") (lv := 1) (tab := [("Guesser", C_Bluffer_choice__g)]) (okMs_cons G_M_Guesser_choice rfl (by decide) okMs_nil) takes0 (hr.mono (by decide)) (je_var 0))) (jss_cons (js_set 5 sc_Guesser_poly.nd rfl (Or.inr rfl) (je_callO G_hopeful takesD (hr.mono (by decide)) (by rfl) (ja_cons (je_var 2) (ja_cons (je_var 4) (ja_cons (je_var 3) (ja_cons (je_fld (f_p_fl T) (je_var 0)) (ja_nil))))) 4)) (jss_cons (js_if (jt_cmp op_isN opl_isN (je_var 5) (je_non) (nomark _)) (jss_cons (js_set 5 sc_Guesser_poly.nd rfl (Or.inr rfl) (je_op op_rep opl_repM (je_lst (ja_cons (je_int) (ja_nil))) (je_callB call_len cbl_len (by rfl) T.n_len bt_len (ja_cons (je_var 1) (ja_nil))))) (jss_one (js_setIx (je_var 2) (je_var 5) (je_int) (pg_sub (je_var 5) (je_int) set_list)))) (jss_nil)) (jss_cons (js_fld (f_sent_fl T) (je_var 0) (je_lc (own := [("k", 6)]) rfl sc_Guesser_poly.nd (ji_range1 (by rfl) T.n_range (ja_cons (je_callB call_len cbl_len (by rfl) T.n_len bt_len (ja_cons (je_var 1) (ja_nil))) (ja_nil))) (blkOk_by (N := ["self", "honest", "lack", "degree", "guesses", "wrong", "k"]) (sc := defScope s_Guesser_poly) (by decide +kernel)) (fun _ _ _ _ _ => jg_name (js := [6]) 6 (by decide) sc_Guesser_poly.nd rfl (Or.inl rfl)) (fun _ _ _ _ _ => jts_nil) (fun _ _ _ _ _ => je_op op_mod opl_mod (je_op op_addAll opl_add (je_ix (je_var 1) (je_var 6)) (je_ix (je_var 5) (je_var 6))) (je_fld (f_p_fl T) (je_var 0))))) (jss_one (js_ret (je_callTy call_list_of cbl_list (by rfl) T.n_list bt_list (ja_cons (je_fld (f_sent_fl T) (je_var 0)) (ja_nil)))))))))))) (rd_Guesser_poly fl_BG)⟩
theorem ok__law_stream {P : Program} {w : World} {K : PySem.W.Frag} {mg : Str → Option Value} {base : Heap} (T : Txt K mg) : Ok P w K mg base "_law_stream" 1 ["_law_script"] C_stream := by
  obtain ⟨f, fd, F, hm, b⟩ := T.d__law_stream
  exact stream_close ⟨f, fd, hm, F.kp, b, okD (C := C_streamO) (W := W_stream) (k := 0) F sc__law_stream (fun cdv A outer s H E hr => jss_cons (js_set 1 sc__law_stream.nd rfl (Or.inl rfl) (je_lstM (ja_cons (je_int) (ja_nil)))) (jss_cons (js_for passD rfl (ji_list (je_sl (je_var 0) (jo_none) (jo_some (je_int)))) (jg_name (js := [2]) 2 (by decide) sc__law_stream.nd rfl (Or.inl rfl)) (jss_cons (js_set 5 sc__law_stream.nd rfl (Or.inl rfl) (je_callB call_abs cbl_abs (by rfl) T.n_abs bt_abs (ja_cons (je_callTy call_int1 cbl_int (by rfl) T.n_int bt_int (ja_cons (je_var 2) (ja_nil))) (ja_nil)))) (jss_one (js_for passD rfl (ji_range1 (by rfl) T.n_range (ja_cons (je_int) (ja_nil))) (jg_name (js := [4]) 4 (by decide) sc__law_stream.nd rfl (Or.inl rfl)) (jss_cons (js_expr (je_mL PySem.F.slot_list_append PySem.F.type_list_append mt_append mtl_app (je_var 1) (ja_cons (je_op op_mod opl_mod (je_var 5) (je_int)) (ja_nil)))) (jss_cons (js_set 5 sc__law_stream.nd rfl (Or.inl rfl) (je_op op_fdivW opl_div (je_var 5) (je_int))) (jss_one (js_if (jt_cmp (op_eqD hr.units) opl_eq (je_var 5) (je_int) (nomark _)) (jss_one (js_break)) (jss_nil))))))))) (jss_cons (js_set 3 sc__law_stream.nd rfl (Or.inl rfl) (je_int)) (jss_cons (js_for passD rfl (ji_list (je_sl (je_var 0) (jo_none) (jo_some (je_int)))) (jg_name (js := [2]) 2 (by decide) sc__law_stream.nd rfl (Or.inl rfl)) (jss_one (js_set 3 sc__law_stream.nd rfl (Or.inl rfl) (je_op op_mod opl_mod (je_callTy call_int1 cbl_int (by rfl) T.n_int bt_int (ja_cons (je_op op_addAll opl_add (je_op op_addAll opl_add (je_op op_mulC opl_mul (je_var 3) (je_int)) (je_var 2)) (je_int)) (ja_nil))) (je_int))))) (jss_cons (js_for passD rfl (ji_range1 (by rfl) T.n_range (ja_cons (je_int) (ja_nil))) (jg_name (js := [4]) 4 (by decide) sc__law_stream.nd rfl (Or.inl rfl)) (jss_cons (js_set 3 sc__law_stream.nd rfl (Or.inl rfl) (je_op op_mod opl_mod (je_callTy call_int1 cbl_int (by rfl) T.n_int bt_int (ja_cons (je_op op_addAll opl_add (je_op op_addAll opl_add (je_op op_mulC opl_mul (je_var 3) (je_int)) (je_op op_mulC opl_mul (je_var 4) (je_int))) (je_int)) (ja_nil))) (je_int))) (jss_one (js_expr (je_mL PySem.F.slot_list_append PySem.F.type_list_append mt_append mtl_app (je_var 1) (ja_cons (je_op op_mod opl_mod (je_op op_fdivW opl_div (je_var 3) (je_int)) (je_int)) (ja_nil))))))) (jss_one (js_ret (je_var 1)))))))) rd_stream⟩
theorem ok__law_take {P : Program} {w : World} {K : PySem.W.Frag} {mg : Str → Option Value} {base : Heap} (T : Txt K mg) : Ok P w K mg base "_law_take" 1 ["_law_row", "_law_many"] C_take := by
  obtain ⟨f, fd, F, hm, b⟩ := T.d__law_take
  exact take_close ⟨f, fd, hm, F.kp, b, okD (C := C_takeO) (W := W_take) (k := 0) F sc__law_take (fun cdv A outer s H E hr => jss_cons (js_if (jt_cmp op_lt opl_lt (je_ix (je_var 0) (je_int)) (je_callB call_len cbl_len (by rfl) T.n_len bt_len (ja_cons (je_var 0) (ja_nil))) (nomark _)) (jss_cons (js_setIx (je_op op_addAll opl_add (je_ix (je_var 0) (je_int)) (je_int)) (je_var 0) (je_int) (pg_sub (je_var 0) (je_int) set_list)) (jss_one (js_ret (je_op op_mod opl_mod (je_callTy call_int1 cbl_int (by rfl) T.n_int bt_int (ja_cons (je_ix (je_var 0) (je_op op_sub opl_sub (je_ix (je_var 0) (je_int)) (je_int))) (ja_nil))) (je_var 1))))) (jss_nil)) (jss_one (js_ret (je_int)))) rd_take⟩
theorem ok__law_gate {P : Program} {w : World} {K : PySem.W.Frag} {mg : Str → Option Value} {base : Heap} (T : Txt K mg) (G__law_take : Ok P w K mg base "_law_take" 1 ["_law_row", "_law_many"] C_take) : Ok P w K mg base "_law_gate" 2 ["_law_row", "_law_p", "_law_columns"] C__law_gate := by
  obtain ⟨f, fd, F, hm, b⟩ := T.d__law_gate
  exact ⟨f, fd, hm, F.kp, b, okD (W := W__law_gate) (k := 1) F sc__law_gate (fun cdv A outer s H E hr => jss_cons (js_if (jt_cmp (op_eqD hr.units) opl_eq (je_callO G__law_take takesD (hr.mono (by decide)) (by rfl) (ja_cons (je_var 0) (ja_cons (je_int) (ja_nil))) 2) (je_int) (nomark _)) (jss_one (js_ret (je_tup (ja_cons (je_str) (ja_cons (je_callO G__law_take takesD (hr.mono (by decide)) (by rfl) (ja_cons (je_var 0) (ja_cons (je_var 1) (ja_nil))) 2) (ja_cons (je_callO G__law_take takesD (hr.mono (by decide)) (by rfl) (ja_cons (je_var 0) (ja_cons (je_var 2) (ja_nil))) 2) (ja_cons (je_callO G__law_take takesD (hr.mono (by decide)) (by rfl) (ja_cons (je_var 0) (ja_cons (je_var 2) (ja_nil))) 2) (ja_nil)))))))) (jss_nil)) (jss_one (js_ret (je_tup (ja_cons (je_str) (ja_cons (je_callO G__law_take takesD (hr.mono (by decide)) (by rfl) (ja_cons (je_var 0) (ja_cons (je_var 1) (ja_nil))) 2) (ja_cons (je_callO G__law_take takesD (hr.mono (by decide)) (by rfl) (ja_cons (je_var 0) (ja_cons (je_var 2) (ja_nil))) 2) (ja_cons (je_callO G__law_take takesD (hr.mono (by decide)) (by rfl) (ja_cons (je_var 0) (ja_cons (je_var 1) (ja_nil))) 2) (ja_cons (je_callO G__law_take takesD (hr.mono (by decide)) (by rfl) (ja_cons (je_var 0) (ja_cons (je_var 2) (ja_nil))) 2) (ja_nil)))))))))) rd__law_gate⟩
theorem ok__law_circuit {P : Program} {w : World} {K : PySem.W.Frag} {mg : Str → Option Value} {base : Heap} (T : Txt K mg) (G__law_take : Ok P w K mg base "_law_take" 1 ["_law_row", "_law_many"] C_take) (G__law_gate : Ok P w K mg base "_law_gate" 2 ["_law_row", "_law_p", "_law_columns"] C__law_gate) : Ok P w K mg base "_law_circuit" 3 ["_law_row", "_law_most", "_law_wide"] C__law_circuit := by
  obtain ⟨f, fd, F, hm, b⟩ := T.d__law_circuit
  exact ⟨f, fd, hm, F.kp, b, okDQ (W := W__law_circuit) (k := 2) F sc__law_circuit (fun cdv A outer s H E hr => jss_cons (js_set 3 sc__law_circuit.nd rfl (Or.inr rfl) (je_ix (je_lst (ja_cons (je_int) (ja_cons (je_int) (ja_cons (je_int) (ja_cons (je_int) (ja_cons (je_int) (ja_nil))))))) (je_callO G__law_take takesD (hr.mono (by decide)) (by rfl) (ja_cons (je_var 0) (ja_cons (je_int) (ja_nil))) 2))) (jss_cons (js_set 4 sc__law_circuit.nd rfl (Or.inl rfl) (je_op op_addAll opl_add (je_int) (je_callO G__law_take takesD (hr.mono (by decide)) (by rfl) (ja_cons (je_var 0) (ja_cons (je_var 1) (ja_nil))) 2))) (jss_cons (js_set 5 sc__law_circuit.nd rfl (Or.inr rfl) (je_lc (own := [("_law_k", 8)]) rfl sc__law_circuit.nd (ji_range1 (by rfl) T.n_range (ja_cons (je_op op_addAll opl_add (je_var 4) (je_int)) (ja_nil))) (blkOk_by (N := ["_law_row", "_law_most", "_law_wide", "_law_p", "_law_many", "_law_widths", "_law_layers", "_law_i", "_law_k"]) (sc := defScope s__law_circuit) (by decide +kernel)) (fun _ _ _ _ _ => jg_name (js := [8]) 8 (by decide) sc__law_circuit.nd rfl (Or.inl rfl)) (fun _ _ _ _ _ => jts_nil) (fun _ _ _ _ _ => je_callO G__law_take takes0 (hr.mono (by decide)) (by rfl) (ja_cons (je_var 0) (ja_cons (je_op op_addAll opl_add (je_var 2) (je_int)) (ja_nil))) 2))) (jss_cons (js_set 6 sc__law_circuit.nd rfl (Or.inl rfl) (je_lstM (ja_nil))) (jss_cons (js_for passD rfl (ji_range1 (by rfl) T.n_range (ja_cons (je_var 4) (ja_nil))) (jg_name (js := [7]) 7 (by decide) sc__law_circuit.nd rfl (Or.inr rfl)) (jss_one (js_expr (je_mL PySem.F.slot_list_append PySem.F.type_list_append mt_append mtl_app (je_var 6) (ja_cons (je_lc (own := [("_law_k", 8)]) rfl sc__law_circuit.nd (ji_range1 (by rfl) T.n_range (ja_cons (je_op op_shl opl_shl (je_int) (je_ix (je_var 5) (je_var 7))) (ja_nil))) (blkOk_by (N := ["_law_row", "_law_most", "_law_wide", "_law_p", "_law_many", "_law_widths", "_law_layers", "_law_i", "_law_k"]) (sc := defScope s__law_circuit) (by decide +kernel)) (fun _ _ _ _ _ => jg_name (js := [8]) 8 (by decide) sc__law_circuit.nd rfl (Or.inl rfl)) (fun _ _ _ _ _ => jts_nil) (fun _ _ _ _ _ => je_callO G__law_gate takes0 (hr.mono (by decide)) (by rfl) (ja_cons (je_var 0) (ja_cons (je_var 3) (ja_cons (je_op op_shl opl_shl (je_int) (je_ix (je_var 5) (je_op op_addAll opl_add (je_var 7) (je_int)))) (ja_nil)))) 3)) (ja_nil)))))) (jss_one (js_frz 6 (js_ret (je_tup (ja_cons (je_str) (ja_cons (je_var 3) (ja_cons (je_var 5) (ja_cons (je_var 6) (ja_nil)))))))))))))) rd__law_circuit⟩
theorem ok__law_inputs {P : Program} {w : World} {K : PySem.W.Frag} {mg : Str → Option Value} {base : Heap} (T : Txt K mg) (G__law_take : Ok P w K mg base "_law_take" 1 ["_law_row", "_law_many"] C_take) : Ok P w K mg base "_law_inputs" 2 ["_law_row", "_law_circuit_here", "_law_bits"] C__law_inputs := by
  obtain ⟨f, fd, F, hm, b⟩ := T.d__law_inputs
  exact ⟨f, fd, hm, F.kp, b, okD (W := W__law_inputs) (k := 1) F sc__law_inputs (fun cdv A outer s H E hr => jss_cons (js_set 3 sc__law_inputs.nd rfl (Or.inr rfl) (je_op op_shl opl_shl (je_int) (je_ix (je_ix (je_var 1) (je_int)) (je_un un_neg unl_neg (je_int))))) (jss_one (js_ret (je_lc (own := [("_law_r", 4)]) rfl sc__law_inputs.nd (ji_range1 (by rfl) T.n_range (ja_cons (je_op op_shl opl_shl (je_int) (je_var 2)) (ja_nil))) (blkOk_by (N := ["_law_row", "_law_circuit_here", "_law_bits", "_law_columns", "_law_r", "_law_k"]) (sc := defScope s__law_inputs) (by decide +kernel)) (fun _ _ _ _ _ => jg_name (js := [4]) 4 (by decide) sc__law_inputs.nd rfl (Or.inl rfl)) (fun _ _ _ _ _ => jts_nil) (fun _ _ _ _ _ => je_lc (own := [("_law_k", 5)]) rfl sc__law_inputs.nd (ji_range1 (by rfl) T.n_range (ja_cons (je_var 3) (ja_nil))) (blkOk_in (N := ["_law_row", "_law_circuit_here", "_law_bits", "_law_columns", "_law_r", "_law_k"]) (sc := defScope s__law_inputs) rfl rfl (blkOk_by (by decide +kernel))) (fun _ _ _ _ _ => jg_name (js := [5]) 5 (by decide) sc__law_inputs.nd rfl (Or.inl rfl)) (fun _ _ _ _ _ => jts_nil) (fun _ _ _ _ _ => je_callO G__law_take takes0 (hr.mono (by decide)) (by rfl) (ja_cons (je_var 0) (ja_cons (je_ix (je_var 1) (je_int)) (ja_nil))) 2)))))) rd__law_inputs⟩
theorem ok__law_near {P : Program} {w : World} {K : PySem.W.Frag} {mg : Str → Option Value} {base : Heap} (T : Txt K mg) : Ok P w K mg base "_law_near" 1 ["_law_one", "_law_two", "_law_p"] C__law_near__2 := by
  obtain ⟨f, fd, F, hm, b⟩ := T.d__law_near
  exact ⟨f, fd, hm, F.kp, b, okD (W := W__law_near__2) (k := 0) F sc__law_near (fun cdv A outer s H E hr => jss_cons (js_set 3 sc__law_near.nd rfl (Or.inl rfl) (je_int)) (jss_cons (js_for passD rfl (ji_range1 (by rfl) T.n_range (ja_cons (je_callB call_len cbl_len (by rfl) T.n_len bt_len (ja_cons (je_var 0) (ja_nil))) (ja_nil))) (jg_name (js := [4]) 4 (by decide) sc__law_near.nd rfl (Or.inl rfl)) (jss_one (js_set 3 sc__law_near.nd rfl (Or.inl rfl) (je_op op_mod opl_mod (je_callTy call_int1 cbl_int (by rfl) T.n_int bt_int (ja_cons (je_op op_mulC opl_mul (je_var 3) (je_op op_addAll opl_add (je_op op_mulC opl_mul (je_ix (je_var 0) (je_var 4)) (je_ix (je_var 1) (je_var 4))) (je_op op_mulC opl_mul (je_op op_sub opl_sub (je_int) (je_ix (je_var 0) (je_var 4))) (je_op op_sub opl_sub (je_int) (je_ix (je_var 1) (je_var 4)))))) (ja_nil))) (je_var 2))))) (jss_one (js_ret (je_var 3))))) rd__law_near__2⟩
theorem ok__law_corner {P : Program} {w : World} {K : PySem.W.Frag} {mg : Str → Option Value} {base : Heap} (T : Txt K mg) : Ok P w K mg base "_law_corner" 1 ["_law_k", "_law_dims"] C__law_corner := by
  obtain ⟨f, fd, F, hm, b⟩ := T.d__law_corner
  exact ⟨f, fd, hm, F.kp, b, okD (W := W__law_corner) (k := 0) F sc__law_corner (fun cdv A outer s H E hr => jss_one (js_ret (je_lc (own := [("_law_j", 2)]) rfl sc__law_corner.nd (ji_range1 (by rfl) T.n_range (ja_cons (je_var 1) (ja_nil))) (blkOk_by (N := ["_law_k", "_law_dims", "_law_j"]) (sc := defScope s__law_corner) (by decide +kernel)) (fun _ _ _ _ _ => jg_name (js := [2]) 2 (by decide) sc__law_corner.nd rfl (Or.inl rfl)) (fun _ _ _ _ _ => jts_nil) (fun _ _ _ _ _ => je_op op_mod opl_mod (je_callTy call_int1 cbl_int (by rfl) T.n_int bt_int (ja_cons (je_op op_shr opl_shr (je_var 0) (je_var 2)) (ja_nil))) (je_int))))) rd__law_corner⟩
theorem ok__law_value {P : Program} {w : World} {K : PySem.W.Frag} {mg : Str → Option Value} {base : Heap} (T : Txt K mg) (G__law_near : Ok P w K mg base "_law_near" 1 ["_law_one", "_law_two", "_law_p"] C__law_near__2) (G__law_corner : Ok P w K mg base "_law_corner" 1 ["_law_k", "_law_dims"] C__law_corner) : Ok P w K mg base "_law_value" 2 ["_law_table", "_law_point", "_law_p"] C__law_value__2 := by
  obtain ⟨f, fd, F, hm, b⟩ := T.d__law_value
  exact ⟨f, fd, hm, F.kp, b, okD (W := W__law_value__2) (k := 1) F sc__law_value (fun cdv A outer s H E hr => jss_cons (js_set 3 sc__law_value.nd rfl (Or.inl rfl) (je_int)) (jss_cons (js_for passD rfl (ji_range1 (by rfl) T.n_range (ja_cons (je_callB call_len cbl_len (by rfl) T.n_len bt_len (ja_cons (je_var 0) (ja_nil))) (ja_nil))) (jg_name (js := [4]) 4 (by decide) sc__law_value.nd rfl (Or.inl rfl)) (jss_one (js_set 3 sc__law_value.nd rfl (Or.inl rfl) (je_op op_addAll opl_add (je_var 3) (je_op op_mulC opl_mul (je_ix (je_var 0) (je_var 4)) (je_callO G__law_near takesD (hr.mono (by decide)) (by rfl) (ja_cons (je_callO G__law_corner takesD (hr.mono (by decide)) (by rfl) (ja_cons (je_var 4) (ja_cons (je_callB call_len cbl_len (by rfl) T.n_len bt_len (ja_cons (je_var 1) (ja_nil))) (ja_nil))) 2) (ja_cons (je_var 1) (ja_cons (je_var 2) (ja_nil)))) 3)))))) (jss_one (js_ret (je_op op_mod opl_mod (je_callTy call_int1 cbl_int (by rfl) T.n_int bt_int (ja_cons (je_var 3) (ja_nil))) (je_var 2)))))) rd__law_value__2⟩
theorem ok__law_at {P : Program} {w : World} {K : PySem.W.Frag} {mg : Str → Option Value} {base : Heap} (T : Txt K mg) : Ok P w K mg base "_law_at" 1 ["_law_values", "_law_t", "_law_p"] C__law_at__2 := by
  obtain ⟨f, fd, F, hm, b⟩ := T.d__law_at
  exact ⟨f, fd, hm, F.kp, b, okD (W := W__law_at__2) (k := 0) F sc__law_at (fun cdv A outer s H E hr => jss_cons (js_set 3 sc__law_at.nd rfl (Or.inl rfl) (je_int)) (jss_cons (js_for passD rfl (ji_range1 (by rfl) T.n_range (ja_cons (je_callB call_len cbl_len (by rfl) T.n_len bt_len (ja_cons (je_var 0) (ja_nil))) (ja_nil))) (jg_name (js := [4]) 4 (by decide) sc__law_at.nd rfl (Or.inl rfl)) (jss_cons (js_set 5 sc__law_at.nd rfl (Or.inl rfl) (je_ix (je_var 0) (je_var 4))) (jss_cons (js_set 6 sc__law_at.nd rfl (Or.inl rfl) (je_int)) (jss_cons (js_for passD rfl (ji_range1 (by rfl) T.n_range (ja_cons (je_callB call_len cbl_len (by rfl) T.n_len bt_len (ja_cons (je_var 0) (ja_nil))) (ja_nil))) (jg_name (js := [7]) 7 (by decide) sc__law_at.nd rfl (Or.inl rfl)) (jss_one (js_if (jt_cmp (op_neD hr.units) opl_ne (je_var 7) (je_var 4) (nomark _)) (jss_cons (js_set 5 sc__law_at.nd rfl (Or.inl rfl) (je_op op_mod opl_mod (je_callTy call_int1 cbl_int (by rfl) T.n_int bt_int (ja_cons (je_op op_mulC opl_mul (je_var 5) (je_op op_sub opl_sub (je_var 1) (je_var 7))) (ja_nil))) (je_var 2))) (jss_one (js_set 6 sc__law_at.nd rfl (Or.inl rfl) (je_op op_mod opl_mod (je_callTy call_int1 cbl_int (by rfl) T.n_int bt_int (ja_cons (je_op op_mulC opl_mul (je_var 6) (je_op op_sub opl_sub (je_var 4) (je_var 7))) (ja_nil))) (je_var 2))))) (jss_nil)))) (jss_cons (js_for passD rfl (ji_range1 (by rfl) T.n_range (ja_cons (je_op op_sub opl_sub (je_var 2) (je_int)) (ja_nil))) (jg_name (js := [7]) 7 (by decide) sc__law_at.nd rfl (Or.inl rfl)) (jss_one (js_set 5 sc__law_at.nd rfl (Or.inl rfl) (je_op op_mod opl_mod (je_callTy call_int1 cbl_int (by rfl) T.n_int bt_int (ja_cons (je_op op_mulC opl_mul (je_var 5) (je_var 6)) (ja_nil))) (je_var 2))))) (jss_one (js_set 3 sc__law_at.nd rfl (Or.inl rfl) (je_op op_addAll opl_add (je_var 3) (je_var 5))))))))) (jss_one (js_ret (je_op op_mod opl_mod (je_callTy call_int1 cbl_int (by rfl) T.n_int bt_int (ja_cons (je_var 3) (ja_nil))) (je_var 2)))))) rd__law_at__2⟩
theorem ok_law {P : Program} {w : World} {K : PySem.W.Frag} {mg : Str → Option Value} {base : Heap} {f : Addr} {fd : FuncData} (T : Txt K mg) (G__law_stream : Ok P w K mg base "_law_stream" 1 ["_law_script"] C_stream) (G__law_circuit : Ok P w K mg base "_law_circuit" 3 ["_law_row", "_law_most", "_law_wide"] C__law_circuit) (G__law_take : Ok P w K mg base "_law_take" 1 ["_law_row", "_law_many"] C_take) (G__law_inputs : Ok P w K mg base "_law_inputs" 2 ["_law_row", "_law_circuit_here", "_law_bits"] C__law_inputs) (G_I_Answerer : OkI P w K mg base "Answerer" 6 ["self", "circuit", "rows"] C_Answerer_init) (G_I_Guesser : OkI P w K mg base "Guesser" 8 ["self", "circuit", "rows", "claimed", "choices"] C_Bluffer_init__g) (G_M_Guesser_begin : OkM P w K base mg "Guesser" "begin" 5 ["self", "layer", "point"] C_Bluffer_begin__g) (G_M_Answerer_begin : OkM P w K base mg "Answerer" "begin" 4 ["self", "layer", "point"] C_Answerer_begin) (G__law_value : Ok P w K mg base "_law_value" 2 ["_law_table", "_law_point", "_law_p"] C__law_value__2) (G_M_Guesser_outputs : OkM P w K base mg "Guesser" "outputs" 1 ["self"] C_Bluffer_outputs__g) (G_M_Guesser_poly : OkM P w K base mg "Guesser" "poly" 5 ["self"] C_Guesser_poly) (G_M_Answerer_poly : OkM P w K base mg "Answerer" "poly" 3 ["self"] C_Answerer_poly) (G__law_at : Ok P w K mg base "_law_at" 1 ["_law_values", "_law_t", "_law_p"] C__law_at__2) (G_M_Guesser_throw : OkM P w K base mg "Guesser" "throw" 6 ["self", "number"] C_Bluffer_throw__g) (G_M_Answerer_throw : OkM P w K base mg "Answerer" "throw" 4 ["self", "number"] C_Answerer_throw) (G_M_Answerer_outputs : OkM P w K base mg "Answerer" "outputs" 1 ["self"] C_Answerer_outputs) (G_hopeful : Ok P w K mg base "hopeful" 4 ["lack", "guesses", "degree", "p"] C_hopeful) (F : Fun K "law" "law" s_law f fd) : FnOk P w K mg base (L2.CX P w) 10 f fd ["_law_script"] (spOf K 1 (CLaw ClawT)) :=
  okD (W := W_law) (k := 9) F sc_law (fun cdv A outer s H E hr => jss_cons (js_set 1 sc_law.nd rfl (Or.inr rfl) (je_callO G__law_stream takesD (hr.mono (by decide)) (by rfl) (ja_cons (je_var 0) (ja_nil)) 1)) (jss_cons (js_set 2 sc_law.nd rfl (Or.inl rfl) (je_callO G__law_circuit takesD (hr.mono (by decide)) (by rfl) (ja_cons (je_var 1) (ja_cons (je_int) (ja_cons (je_int) (ja_nil)))) 3)) (jss_cons (js_set 3 sc_law.nd rfl (Or.inl rfl) (je_callO G__law_take takesD (hr.mono (by decide)) (by rfl) (ja_cons (je_var 1) (ja_cons (je_int) (ja_nil))) 2)) (jss_cons (js_set 4 sc_law.nd rfl (Or.inr rfl) (je_ix (je_var 2) (je_int))) (jss_cons (js_set 5 sc_law.nd rfl (Or.inl rfl) (je_callO G__law_inputs takesD (hr.mono (by decide)) (by rfl) (ja_cons (je_var 1) (ja_cons (je_var 2) (ja_cons (je_var 3) (ja_nil)))) 3)) (jss_cons (js_set 6 sc_law.nd rfl (Or.inl rfl) (je_make G_I_Answerer takesD (hr.mono (by decide)) (by rfl) (ja_cons (je_var 2) (ja_cons (je_var 5) (ja_nil))) 2)) (jss_cons (js_setLc (own := [("_law_part", 21)]) 7 rfl sc_law.nd rfl rfl (sw_true rfl rfl rfl (by decide +kernel)) (ji_list (je_meth0 (mn := "outputs") (lv := 1) (tab := [("Answerer", C_Answerer_outputs)]) (okMs_cons G_M_Answerer_outputs rfl (by decide) okMs_nil) takesD (hr.mono (by decide)) (je_var 6))) (blkOk_by (N := ["_law_script", "_law_row", "_law_circuit_here", "_law_bits", "_law_p", "_law_rows", "_law_honest", "_law_claimed", "_law_many", "_law_guesses", "_law_guesser", "_law_point", "_law_claim", "_law_at_here", "_law_k", "_law_degree", "_law_mine", "_law_told", "_law_due", "_law_lack", "_law_number", "_law_part"]) (sc := defScope s_law) (by decide +kernel)) (fun _ _ _ _ _ => jg_name (js := [21]) 21 (by decide) sc_law.nd rfl (Or.inl rfl)) (fun _ _ _ _ _ => jts_nil) (fun _ _ _ _ _ => je_callO G__law_take takes0 (hr.mono (by decide)) (by rfl) (ja_cons (je_var 1) (ja_cons (je_var 4) (ja_nil))) 2)) (jss_cons (js_set 8 sc_law.nd rfl (Or.inl rfl) (je_op op_addAll opl_add (je_var 3) (je_op op_mulC opl_mul (je_int) (je_ix (je_ix (je_var 2) (je_int)) (je_int))))) (jss_cons (js_setLc (own := [("_law_k", 14)]) 9 rfl sc_law.nd rfl rfl (sw_true rfl rfl rfl (by decide +kernel)) (ji_range1 (by rfl) T.n_range (ja_cons (je_op op_addAll opl_add (je_op op_mulC opl_mul (je_int) (je_var 3)) (je_op op_mulC opl_mul (je_int) (je_ix (je_ix (je_var 2) (je_int)) (je_int)))) (ja_nil))) (blkOk_by (N := ["_law_script", "_law_row", "_law_circuit_here", "_law_bits", "_law_p", "_law_rows", "_law_honest", "_law_claimed", "_law_many", "_law_guesses", "_law_guesser", "_law_point", "_law_claim", "_law_at_here", "_law_k", "_law_degree", "_law_mine", "_law_told", "_law_due", "_law_lack", "_law_number", "_law_part"]) (sc := defScope s_law) (by decide +kernel)) (fun _ _ _ _ _ => jg_name (js := [14]) 14 (by decide) sc_law.nd rfl (Or.inl rfl)) (fun _ _ _ _ _ => jts_nil) (fun _ _ _ _ _ => je_callO G__law_take takes0 (hr.mono (by decide)) (by rfl) (ja_cons (je_var 1) (ja_cons (je_var 4) (ja_nil))) 2)) (jss_cons (js_set 10 sc_law.nd rfl (Or.inl rfl) (je_make G_I_Guesser takesD (hr.mono (by decide)) (by rfl) (ja_cons (je_var 2) (ja_cons (je_var 5) (ja_cons (je_var 7) (ja_cons (je_var 9) (ja_nil))))) 4)) (jss_cons (js_setLc (own := [("_law_k", 14)]) 11 rfl sc_law.nd rfl rfl (sw_true rfl rfl rfl (by decide +kernel)) (ji_range1 (by rfl) T.n_range (ja_cons (je_op op_addAll opl_add (je_var 3) (je_ix (je_ix (je_var 2) (je_int)) (je_int))) (ja_nil))) (blkOk_by (N := ["_law_script", "_law_row", "_law_circuit_here", "_law_bits", "_law_p", "_law_rows", "_law_honest", "_law_claimed", "_law_many", "_law_guesses", "_law_guesser", "_law_point", "_law_claim", "_law_at_here", "_law_k", "_law_degree", "_law_mine", "_law_told", "_law_due", "_law_lack", "_law_number", "_law_part"]) (sc := defScope s_law) (by decide +kernel)) (fun _ _ _ _ _ => jg_name (js := [14]) 14 (by decide) sc_law.nd rfl (Or.inl rfl)) (fun _ _ _ _ _ => jts_nil) (fun _ _ _ _ _ => je_callO G__law_take takes0 (hr.mono (by decide)) (by rfl) (ja_cons (je_var 1) (ja_cons (je_var 4) (ja_nil))) 2)) (jss_cons (js_if (jt_cmp (op_neD hr.units) opl_ne (je_meth0 (mn := "outputs") (lv := 1) (tab := [("Guesser", C_Bluffer_outputs__g)]) (okMs_cons G_M_Guesser_outputs rfl (by decide) okMs_nil) takesD (hr.mono (by decide)) (je_var 10)) (je_var 7) (nomark _)) (jss_one (js_ret (je_bl))) (jss_nil)) (jss_cons (js_expr (je_meth (mn := "begin") (lv := 5) (n := 2) (tab := [("Guesser", C_Bluffer_begin__g)]) (okMs_cons G_M_Guesser_begin rfl (by decide) okMs_nil) takesD (hr.mono (by decide)) (je_var 10) (ja_cons (je_int) (ja_cons (je_var 11) (ja_nil))))) (jss_cons (js_expr (je_meth (mn := "begin") (lv := 4) (n := 2) (tab := [("Answerer", C_Answerer_begin)]) (okMs_cons G_M_Answerer_begin rfl (by decide) okMs_nil) takesD (hr.mono (by decide)) (je_var 6) (ja_cons (je_int) (ja_cons (je_var 11) (ja_nil))))) (jss_cons (js_set 12 sc_law.nd rfl (Or.inl rfl) (je_callO G__law_value takesD (hr.mono (by decide)) (by rfl) (ja_cons (je_var 7) (ja_cons (je_var 11) (ja_cons (je_var 4) (ja_nil)))) 3)) (jss_cons (js_set 13 sc_law.nd rfl (Or.inl rfl) (je_int)) (jss_cons (js_for passD rfl (ji_range1 (by rfl) T.n_range (ja_cons (je_var 8) (ja_nil))) (jg_name (js := [14]) 14 (by decide) sc_law.nd rfl (Or.inl rfl)) (jss_cons (js_set 15 sc_law.nd rfl (Or.inl rfl) (je_ifExp (jt_cmp op_lt opl_lt (je_var 14) (je_var 3) (nomark _)) (je_int) (je_int))) (jss_cons (js_set 16 sc_law.nd rfl (Or.inl rfl) (je_sl (je_var 9) (jo_some (je_var 13)) (jo_some (je_op op_addAll opl_add (je_var 13) (je_var 15))))) (jss_cons (js_set 13 sc_law.nd rfl (Or.inl rfl) (je_op op_addAll opl_add (je_var 13) (je_var 15))) (jss_cons (js_set 17 sc_law.nd rfl (Or.inl rfl) (je_meth0 (mn := "poly") (lv := 5) (tab := [("Guesser", C_Guesser_poly)]) (okMs_cons G_M_Guesser_poly rfl (by decide) okMs_nil) takesD (hr.mono (by decide)) (je_var 10))) (jss_cons (js_set 18 sc_law.nd rfl (Or.inl rfl) (je_meth0 (mn := "poly") (lv := 3) (tab := [("Answerer", C_Answerer_poly)]) (okMs_cons G_M_Answerer_poly rfl (by decide) okMs_nil) takesD (hr.mono (by decide)) (je_var 6))) (jss_cons (js_set 19 sc_law.nd rfl (Or.inl rfl) (je_op op_mod opl_mod (je_callTy call_int1 cbl_int (by rfl) T.n_int bt_int (ja_cons (je_op op_sub opl_sub (je_op op_sub opl_sub (je_var 12) (je_ix (je_var 18) (je_int))) (je_ix (je_var 18) (je_int))) (ja_nil))) (je_var 4))) (jss_cons (js_if (PW.pt (jw_or (jt_cmp (op_neD hr.units) opl_ne (je_callB call_len cbl_len (by rfl) T.n_len bt_len (ja_cons (je_var 17) (ja_nil))) (je_op op_addAll opl_add (je_var 15) (je_int)) (nomark _)) (jw_or1 (jt_cmp (op_neD hr.units) opl_ne (je_op op_mod opl_mod (je_callTy call_int1 cbl_int (by rfl) T.n_int bt_int (ja_cons (je_op op_sub opl_sub (je_op op_addAll opl_add (je_ix (je_var 17) (je_int)) (je_ix (je_var 17) (je_int))) (je_var 12)) (ja_nil))) (je_var 4)) (je_int) (nomark _))))) (jss_one (js_ret (je_bl))) (jss_nil)) (jss_cons (js_if (PW.pt (jw_and (jt_cmp (op_eqD hr.units) opl_eq (je_var 19) (je_int) (nomark _)) (jw_and1 (jt_cmp (op_neD hr.units) opl_ne (je_var 17) (je_var 18) (nomark _))))) (jss_one (js_ret (je_bl))) (jss_nil)) (jss_cons (js_set 20 sc_law.nd rfl (Or.inl rfl) (je_ix (je_var 16) (je_callO G__law_take takesD (hr.mono (by decide)) (by rfl) (ja_cons (je_var 1) (ja_cons (je_var 15) (ja_nil))) 2))) (jss_cons (js_if (jt_cmp (op_eqD hr.units) opl_eq (je_callO G__law_take takesD (hr.mono (by decide)) (by rfl) (ja_cons (je_var 1) (ja_cons (je_int) (ja_nil))) 2) (je_int) (nomark _)) (jss_one (js_set 20 sc_law.nd rfl (Or.inl rfl) (je_callO G__law_take takesD (hr.mono (by decide)) (by rfl) (ja_cons (je_var 1) (ja_cons (je_var 4) (ja_nil))) 2))) (jss_nil)) (jss_cons (js_set 12 sc_law.nd rfl (Or.inl rfl) (je_callO G__law_at takesD (hr.mono (by decide)) (by rfl) (ja_cons (je_var 17) (ja_cons (je_var 20) (ja_cons (je_var 4) (ja_nil)))) 3)) (jss_cons (js_if (PW.pt (jw_and (jt_cmp (op_inD (room65 hr)) opl_in (je_var 20) (je_var 16) (by rfl)) (jw_and (jt_cmp op_notN opl_notN (je_callO G_hopeful takesD (hr.mono (by decide)) (by rfl) (ja_cons (je_var 19) (ja_cons (je_var 16) (ja_cons (je_var 15) (ja_cons (je_var 4) (ja_nil))))) 4) (je_non) (nomark _)) (jw_and1 (jt_cmp (op_neD hr.units) opl_ne (je_var 12) (je_callO G__law_at takesD (hr.mono (by decide)) (by rfl) (ja_cons (je_var 18) (ja_cons (je_var 20) (ja_cons (je_var 4) (ja_nil)))) 3) (nomark _)))))) (jss_one (js_ret (je_bl))) (jss_nil)) (jss_cons (js_expr (je_meth (mn := "throw") (lv := 6) (n := 1) (tab := [("Guesser", C_Bluffer_throw__g)]) (okMs_cons G_M_Guesser_throw rfl (by decide) okMs_nil) takesD (hr.mono (by decide)) (je_var 10) (ja_cons (je_var 20) (ja_nil)))) (jss_one (js_expr (je_meth (mn := "throw") (lv := 4) (n := 1) (tab := [("Answerer", C_Answerer_throw)]) (okMs_cons G_M_Answerer_throw rfl (by decide) okMs_nil) takesD (hr.mono (by decide)) (je_var 6) (ja_cons (je_var 20) (ja_nil))))))))))))))))))) (jss_one (js_ret (je_bl)))))))))))))))))))) rd_law
theorem all_ok {P : Program} {w : World} {K : PySem.W.Frag} {mg : Str → Option Value} {base : Heap} {f : Addr} {fd : FuncData} (T : Txt K mg) (F : Fun K "law" "law" s_law f fd) : FnOk P w K mg base (L2.CX P w) 10 f fd ["_law_script"] (spOf K 1 (CLaw ClawT)) := by
  have G_FieldError := ok_FieldError (P := P) (w := w) (base := base) T
  have G_CircuitError := ok_CircuitError (P := P) (w := w) (base := base) T
  have G_SizeError := ok_SizeError (P := P) (w := w) (base := base) T
  have G__law_stream := ok__law_stream (P := P) (w := w) (base := base) T
  have G__law_take := ok__law_take (P := P) (w := w) (base := base) T
  have G__law_gate := ok__law_gate (P := P) (w := w) (base := base) T G__law_take
  have G__law_circuit := ok__law_circuit (P := P) (w := w) (base := base) T G__law_take G__law_gate
  have G__law_inputs := ok__law_inputs (P := P) (w := w) (base := base) T G__law_take
  have G_is_prime := ok_is_prime (P := P) (w := w) (base := base) T
  have G_check_modulus := ok_check_modulus (P := P) (w := w) (base := base) T G_FieldError G_is_prime
  have G_is_shaped := ok_is_shaped (P := P) (w := w) (base := base) T
  have G_fits := ok_fits (P := P) (w := w) (base := base) T
  have G_is_gate := ok_is_gate (P := P) (w := w) (base := base) T G_fits
  have G_checked := ok_checked (P := P) (w := w) (base := base) T G_CircuitError G_SizeError G_check_modulus G_is_shaped G_is_gate
  have G_modulus := ok_modulus (P := P) (w := w) (base := base) T
  have G_gate_value := ok_gate_value (P := P) (w := w) (base := base) T
  have G_run_row := ok_run_row (P := P) (w := w) (base := base) T G_modulus G_gate_value
  have G_width := ok_width (P := P) (w := w) (base := base) T
  have G_depth := ok_depth (P := P) (w := w) (base := base) T
  have G_row_bits := ok_row_bits (P := P) (w := w) (base := base) T
  have G_checked_rows := ok_checked_rows (P := P) (w := w) (base := base) T G_CircuitError G_SizeError G_modulus G_width G_depth G_row_bits G_fits
  have G_run := ok_run (P := P) (w := w) (base := base) T G_checked G_run_row G_checked_rows G_depth G_width
  have G_I_Answerer := ok_I_Answerer (P := P) (w := w) (base := base) T G_run G_row_bits G_modulus
  have G_I_Guesser := ok_I_Guesser (P := P) (w := w) (base := base) T G_I_Answerer
  have G_point_table := ok_point_table (P := P) (w := w) (base := base) T
  have G_weighted_gates := ok_weighted_gates (P := P) (w := w) (base := base) T
  have G_M_Answerer_first_tables := ok_M_Answerer_first_tables (P := P) (w := w) (base := base) T
  have G_M_Answerer_second_tables := ok_M_Answerer_second_tables (P := P) (w := w) (base := base) T G_point_table
  have G_M_Answerer_turn := ok_M_Answerer_turn (P := P) (w := w) (base := base) T G_M_Answerer_first_tables G_M_Answerer_second_tables
  have G_M_Answerer_begin := ok_M_Answerer_begin (P := P) (w := w) (base := base) T G_point_table G_width G_weighted_gates G_M_Answerer_turn
  have G_fold := ok_fold (P := P) (w := w) (base := base) T
  have G_value_at := ok_value_at (P := P) (w := w) (base := base) T G_fold
  have G_M_Guesser_begin := ok_M_Guesser_begin (P := P) (w := w) (base := base) T G_M_Answerer_begin G_value_at
  have G__law_near := ok__law_near (P := P) (w := w) (base := base) T
  have G__law_corner := ok__law_corner (P := P) (w := w) (base := base) T
  have G__law_value := ok__law_value (P := P) (w := w) (base := base) T G__law_near G__law_corner
  have G_M_Guesser_outputs := ok_M_Guesser_outputs (P := P) (w := w) (base := base) T
  have G_at_number := ok_at_number (P := P) (w := w) (base := base) T
  have G_M_Answerer_column_value := ok_M_Answerer_column_value (P := P) (w := w) (base := base) T G_at_number
  have G_gates_sum := ok_gates_sum (P := P) (w := w) (base := base) T
  have G_M_Answerer_row_value := ok_M_Answerer_row_value (P := P) (w := w) (base := base) T G_gates_sum G_at_number
  have G_M_Answerer_poly := ok_M_Answerer_poly (P := P) (w := w) (base := base) T G_M_Answerer_column_value G_M_Answerer_row_value
  have G_power := ok_power (P := P) (w := w) (base := base) T
  have G_inverse := ok_inverse (P := P) (w := w) (base := base) T G_FieldError G_power
  have G_hopeful := ok_hopeful (P := P) (w := w) (base := base) T G_inverse
  have G_M_Guesser_choice := ok_M_Guesser_choice (P := P) (w := w) (base := base) T
  have G_M_Guesser_poly := ok_M_Guesser_poly (P := P) (w := w) (base := base) T G_M_Answerer_poly G_hopeful G_M_Guesser_choice
  have G__law_at := ok__law_at (P := P) (w := w) (base := base) T
  have G_weights_polys := ok_weights_polys (P := P) (w := w) (base := base) T G_inverse
  have G_value := ok_value (P := P) (w := w) (base := base) T G_weights_polys
  have G_M_Answerer_throw := ok_M_Answerer_throw (P := P) (w := w) (base := base) T G_M_Answerer_turn G_fold
  have G_M_Guesser_throw := ok_M_Guesser_throw (P := P) (w := w) (base := base) T G_value G_M_Answerer_throw
  have G_M_Answerer_outputs := ok_M_Answerer_outputs (P := P) (w := w) (base := base) T
  exact ok_law T G__law_stream G__law_circuit G__law_take G__law_inputs G_I_Answerer G_I_Guesser G_M_Guesser_begin G_M_Answerer_begin G__law_value G_M_Guesser_outputs G_M_Guesser_poly G_M_Answerer_poly G__law_at G_M_Guesser_throw G_M_Answerer_throw G_M_Answerer_outputs G_hopeful F
theorem law_fin {l : PySem.W.OpenLaw} {w : World} {K : PySem.W.Frag} {mg : Str → Option Value} {fa : Addr} (T : Txt K mg) (hfa : mg "law" = some (.ref fa)) : ∃ fd : FuncData, (∀ (s : Shared) (v : Value), BindsTo s fd ⟨[v], []⟩ [("_law_script", v)]) ∧
    ∀ base : Heap, K.In base → base.Ns mainGlobals mg → FnOk l.prog w K mg base (L2.CX l.prog w) 10 fa fd ["_law_script"] (spOf K 1 (CLaw ClawT)) := by
  obtain ⟨f, fd, F, hm, b⟩ := T.d_law
  have e := hfa.symm.trans hm
  cases e
  exact ⟨fd, fun s v => .of_eq (b [v] rfl), fun base _ _ => all_ok T F⟩
end K36
open PySem PySem.W PyProof.Rows
set_option pp.maxSteps 300 in
set_option maxHeartbeats 0 in
theorem PySem.Challenge.cw_layerask_k36_a_right_guess_makes_the_cla_holds : PySem.Challenge.rw_layerask_k36_a_right_guess_makes_the_cla.Holds := by
  w_on; o_law; k_head; (case hw => w_witness2)
  k_fill
  refine Dl.walk_D (l := PySem.Challenge.rw_layerask_k36_a_right_guess_makes_the_cla) (k := 10) (x := "_law_script") rfl rfl ⟨rfl, by decide, by decide⟩ (fun w h Y => PySem.W.kIn_of Y) ?F
  case F =>
    intro w mg fa h KX G hmg
    refine K36.law_fin ?T hmg
    exact {
      mi_Answerer := by (refine' Dl.iniT_mk KX G ?a ?k1 ?k2 ?k3 ?k4 ?l ?c ?k ?b; (case a => k_is); (case k1 => k_is); (case k2 => k_is); (case k3 => k_is); (case k4 => k_is); (case l => k_is); (case c => k_is); (case k => k_is); (case b => exact fun _ _ _ _ _ _ us hl => match us, hl with | [_, _, _], _ => rfl))
      mi_Guesser := by (refine' Dl.iniT_mk KX G ?a ?k1 ?k2 ?k3 ?k4 ?l ?c ?k ?b; (case a => k_is); (case k1 => k_is); (case k2 => k_is); (case k3 => k_is); (case k4 => k_is); (case l => k_is); (case c => k_is); (case k => k_is); (case b => exact fun _ _ _ _ _ _ us hl => match us, hl with | [_, _, _, _, _], _ => rfl))
      mm_Answerer_begin := by (refine' Dl.mthT_mk ?a ?k1 ?k2 ?k3 ?k4 ?m1 ?m2 ?l ?c ?k ?b; (case a => k_is); (case k1 => k_is); (case k2 => k_is); (case k3 => k_is); (case k4 => k_is); (case m1 => k_is); (case m2 => k_is); (case l => k_is); (case c => k_is); (case k => k_is); (case b => exact fun _ _ _ _ _ _ us hl => match us, hl with | [_, _, _], _ => rfl))
      mm_Answerer_column_value := by (refine' Dl.mthT_mk ?a ?k1 ?k2 ?k3 ?k4 ?m1 ?m2 ?l ?c ?k ?b; (case a => k_is); (case k1 => k_is); (case k2 => k_is); (case k3 => k_is); (case k4 => k_is); (case m1 => k_is); (case m2 => k_is); (case l => k_is); (case c => k_is); (case k => k_is); (case b => exact fun _ _ _ _ _ _ us hl => match us, hl with | [_, _], _ => rfl))
      mm_Answerer_first_tables := by (refine' Dl.mthT_mk ?a ?k1 ?k2 ?k3 ?k4 ?m1 ?m2 ?l ?c ?k ?b; (case a => k_is); (case k1 => k_is); (case k2 => k_is); (case k3 => k_is); (case k4 => k_is); (case m1 => k_is); (case m2 => k_is); (case l => k_is); (case c => k_is); (case k => k_is); (case b => exact fun _ _ _ _ _ _ us hl => match us, hl with | [_], _ => rfl))
      mm_Answerer_outputs := by (refine' Dl.mthT_mk ?a ?k1 ?k2 ?k3 ?k4 ?m1 ?m2 ?l ?c ?k ?b; (case a => k_is); (case k1 => k_is); (case k2 => k_is); (case k3 => k_is); (case k4 => k_is); (case m1 => k_is); (case m2 => k_is); (case l => k_is); (case c => k_is); (case k => k_is); (case b => exact fun _ _ _ _ _ _ us hl => match us, hl with | [_], _ => rfl))
      mm_Answerer_poly := by (refine' Dl.mthT_mk ?a ?k1 ?k2 ?k3 ?k4 ?m1 ?m2 ?l ?c ?k ?b; (case a => k_is); (case k1 => k_is); (case k2 => k_is); (case k3 => k_is); (case k4 => k_is); (case m1 => k_is); (case m2 => k_is); (case l => k_is); (case c => k_is); (case k => k_is); (case b => exact fun _ _ _ _ _ _ us hl => match us, hl with | [_], _ => rfl))
      mm_Answerer_row_value := by (refine' Dl.mthT_mk ?a ?k1 ?k2 ?k3 ?k4 ?m1 ?m2 ?l ?c ?k ?b; (case a => k_is); (case k1 => k_is); (case k2 => k_is); (case k3 => k_is); (case k4 => k_is); (case m1 => k_is); (case m2 => k_is); (case l => k_is); (case c => k_is); (case k => k_is); (case b => exact fun _ _ _ _ _ _ us hl => match us, hl with | [_, _], _ => rfl))
      mm_Answerer_second_tables := by (refine' Dl.mthT_mk ?a ?k1 ?k2 ?k3 ?k4 ?m1 ?m2 ?l ?c ?k ?b; (case a => k_is); (case k1 => k_is); (case k2 => k_is); (case k3 => k_is); (case k4 => k_is); (case m1 => k_is); (case m2 => k_is); (case l => k_is); (case c => k_is); (case k => k_is); (case b => exact fun _ _ _ _ _ _ us hl => match us, hl with | [_, _], _ => rfl))
      mm_Answerer_throw := by (refine' Dl.mthT_mk ?a ?k1 ?k2 ?k3 ?k4 ?m1 ?m2 ?l ?c ?k ?b; (case a => k_is); (case k1 => k_is); (case k2 => k_is); (case k3 => k_is); (case k4 => k_is); (case m1 => k_is); (case m2 => k_is); (case l => k_is); (case c => k_is); (case k => k_is); (case b => exact fun _ _ _ _ _ _ us hl => match us, hl with | [_, _], _ => rfl))
      mm_Answerer_turn := by (refine' Dl.mthT_mk ?a ?k1 ?k2 ?k3 ?k4 ?m1 ?m2 ?l ?c ?k ?b; (case a => k_is); (case k1 => k_is); (case k2 => k_is); (case k3 => k_is); (case k4 => k_is); (case m1 => k_is); (case m2 => k_is); (case l => k_is); (case c => k_is); (case k => k_is); (case b => exact fun _ _ _ _ _ _ us hl => match us, hl with | [_], _ => rfl))
      mm_Guesser_begin := by (refine' Dl.mthT_mk ?a ?k1 ?k2 ?k3 ?k4 ?m1 ?m2 ?l ?c ?k ?b; (case a => k_is); (case k1 => k_is); (case k2 => k_is); (case k3 => k_is); (case k4 => k_is); (case m1 => k_is); (case m2 => k_is); (case l => k_is); (case c => k_is); (case k => k_is); (case b => exact fun _ _ _ _ _ _ us hl => match us, hl with | [_, _, _], _ => rfl))
      mm_Guesser_choice := by (refine' Dl.mthT_mk ?a ?k1 ?k2 ?k3 ?k4 ?m1 ?m2 ?l ?c ?k ?b; (case a => k_is); (case k1 => k_is); (case k2 => k_is); (case k3 => k_is); (case k4 => k_is); (case m1 => k_is); (case m2 => k_is); (case l => k_is); (case c => k_is); (case k => k_is); (case b => exact fun _ _ _ _ _ _ us hl => match us, hl with | [_], _ => rfl))
      mm_Guesser_outputs := by (refine' Dl.mthT_mk ?a ?k1 ?k2 ?k3 ?k4 ?m1 ?m2 ?l ?c ?k ?b; (case a => k_is); (case k1 => k_is); (case k2 => k_is); (case k3 => k_is); (case k4 => k_is); (case m1 => k_is); (case m2 => k_is); (case l => k_is); (case c => k_is); (case k => k_is); (case b => exact fun _ _ _ _ _ _ us hl => match us, hl with | [_], _ => rfl))
      mm_Guesser_poly := by (refine' Dl.mthT_mk ?a ?k1 ?k2 ?k3 ?k4 ?m1 ?m2 ?l ?c ?k ?b; (case a => k_is); (case k1 => k_is); (case k2 => k_is); (case k3 => k_is); (case k4 => k_is); (case m1 => k_is); (case m2 => k_is); (case l => k_is); (case c => k_is); (case k => k_is); (case b => exact fun _ _ _ _ _ _ us hl => match us, hl with | [_], _ => rfl))
      mm_Guesser_throw := by (refine' Dl.mthT_mk ?a ?k1 ?k2 ?k3 ?k4 ?m1 ?m2 ?l ?c ?k ?b; (case a => k_is); (case k1 => k_is); (case k2 => k_is); (case k3 => k_is); (case k4 => k_is); (case m1 => k_is); (case m2 => k_is); (case l => k_is); (case c => k_is); (case k => k_is); (case b => exact fun _ _ _ _ _ _ us hl => match us, hl with | [_, _], _ => rfl))
      f_below := by (refine' Dl.fldT_cons ?a ?b ?c ?d ?e ?f ?r; (case a => k_is); (case b => k_is); (case c => k_is); (case d => k_is); (case e => k_is); (case f => k_is); (case r => (exact Dl.fldT_nil)))
      f_bits := by (refine' Dl.fldT_cons ?a ?b ?c ?d ?e ?f ?r; (case a => k_is); (case b => k_is); (case c => k_is); (case d => k_is); (case e => k_is); (case f => k_is); (case r => (refine' Dl.fldT_cons ?a ?b ?c ?d ?e ?f ?r; (case a => k_is); (case b => k_is); (case c => k_is); (case d => k_is); (case e => k_is); (case f => k_is); (case r => (refine' Dl.fldT_cons ?a ?b ?c ?d ?e ?f ?r; (case a => k_is); (case b => k_is); (case c => k_is); (case d => k_is); (case e => k_is); (case f => k_is); (case r => (exact Dl.fldT_nil)))))))
      f_choices := by (refine' Dl.fldT_cons ?a ?b ?c ?d ?e ?f ?r; (case a => k_is); (case b => k_is); (case c => k_is); (case d => k_is); (case e => k_is); (case f => k_is); (case r => (refine' Dl.fldT_cons ?a ?b ?c ?d ?e ?f ?r; (case a => k_is); (case b => k_is); (case c => k_is); (case d => k_is); (case e => k_is); (case f => k_is); (case r => (exact Dl.fldT_nil)))))
      f_circuit := by (refine' Dl.fldT_cons ?a ?b ?c ?d ?e ?f ?r; (case a => k_is); (case b => k_is); (case c => k_is); (case d => k_is); (case e => k_is); (case f => k_is); (case r => (refine' Dl.fldT_cons ?a ?b ?c ?d ?e ?f ?r; (case a => k_is); (case b => k_is); (case c => k_is); (case d => k_is); (case e => k_is); (case f => k_is); (case r => (refine' Dl.fldT_cons ?a ?b ?c ?d ?e ?f ?r; (case a => k_is); (case b => k_is); (case c => k_is); (case d => k_is); (case e => k_is); (case f => k_is); (case r => (exact Dl.fldT_nil)))))))
      f_claim := by (refine' Dl.fldT_cons ?a ?b ?c ?d ?e ?f ?r; (case a => k_is); (case b => k_is); (case c => k_is); (case d => k_is); (case e => k_is); (case f => k_is); (case r => (refine' Dl.fldT_cons ?a ?b ?c ?d ?e ?f ?r; (case a => k_is); (case b => k_is); (case c => k_is); (case d => k_is); (case e => k_is); (case f => k_is); (case r => (exact Dl.fldT_nil)))))
      f_claimed := by (refine' Dl.fldT_cons ?a ?b ?c ?d ?e ?f ?r; (case a => k_is); (case b => k_is); (case c => k_is); (case d => k_is); (case e => k_is); (case f => k_is); (case r => (refine' Dl.fldT_cons ?a ?b ?c ?d ?e ?f ?r; (case a => k_is); (case b => k_is); (case c => k_is); (case d => k_is); (case e => k_is); (case f => k_is); (case r => (exact Dl.fldT_nil)))))
      f_columns := by (refine' Dl.fldT_cons ?a ?b ?c ?d ?e ?f ?r; (case a => k_is); (case b => k_is); (case c => k_is); (case d => k_is); (case e => k_is); (case f => k_is); (case r => (exact Dl.fldT_nil)))
      f_factors := by (refine' Dl.fldT_cons ?a ?b ?c ?d ?e ?f ?r; (case a => k_is); (case b => k_is); (case c => k_is); (case d => k_is); (case e => k_is); (case f => k_is); (case r => (exact Dl.fldT_nil)))
      f_first := by (refine' Dl.fldT_cons ?a ?b ?c ?d ?e ?f ?r; (case a => k_is); (case b => k_is); (case c => k_is); (case d => k_is); (case e => k_is); (case f => k_is); (case r => (exact Dl.fldT_nil)))
      f_gates := by (refine' Dl.fldT_cons ?a ?b ?c ?d ?e ?f ?r; (case a => k_is); (case b => k_is); (case c => k_is); (case d => k_is); (case e => k_is); (case f => k_is); (case r => (exact Dl.fldT_nil)))
      f_honest := by (refine' Dl.fldT_cons ?a ?b ?c ?d ?e ?f ?r; (case a => k_is); (case b => k_is); (case c => k_is); (case d => k_is); (case e => k_is); (case f => k_is); (case r => (refine' Dl.fldT_cons ?a ?b ?c ?d ?e ?f ?r; (case a => k_is); (case b => k_is); (case c => k_is); (case d => k_is); (case e => k_is); (case f => k_is); (case r => (exact Dl.fldT_nil)))))
      f_layer := by (refine' Dl.fldT_cons ?a ?b ?c ?d ?e ?f ?r; (case a => k_is); (case b => k_is); (case c => k_is); (case d => k_is); (case e => k_is); (case f => k_is); (case r => (refine' Dl.fldT_cons ?a ?b ?c ?d ?e ?f ?r; (case a => k_is); (case b => k_is); (case c => k_is); (case d => k_is); (case e => k_is); (case f => k_is); (case r => (refine' Dl.fldT_cons ?a ?b ?c ?d ?e ?f ?r; (case a => k_is); (case b => k_is); (case c => k_is); (case d => k_is); (case e => k_is); (case f => k_is); (case r => (exact Dl.fldT_nil)))))))
      f_left := by (refine' Dl.fldT_cons ?a ?b ?c ?d ?e ?f ?r; (case a => k_is); (case b => k_is); (case c => k_is); (case d => k_is); (case e => k_is); (case f => k_is); (case r => (exact Dl.fldT_nil)))
      f_near := by (refine' Dl.fldT_cons ?a ?b ?c ?d ?e ?f ?r; (case a => k_is); (case b => k_is); (case c => k_is); (case d => k_is); (case e => k_is); (case f => k_is); (case r => (exact Dl.fldT_nil)))
      f_p := by (refine' Dl.fldT_cons ?a ?b ?c ?d ?e ?f ?r; (case a => k_is); (case b => k_is); (case c => k_is); (case d => k_is); (case e => k_is); (case f => k_is); (case r => (refine' Dl.fldT_cons ?a ?b ?c ?d ?e ?f ?r; (case a => k_is); (case b => k_is); (case c => k_is); (case d => k_is); (case e => k_is); (case f => k_is); (case r => (refine' Dl.fldT_cons ?a ?b ?c ?d ?e ?f ?r; (case a => k_is); (case b => k_is); (case c => k_is); (case d => k_is); (case e => k_is); (case f => k_is); (case r => (exact Dl.fldT_nil)))))))
      f_point := by (refine' Dl.fldT_cons ?a ?b ?c ?d ?e ?f ?r; (case a => k_is); (case b => k_is); (case c => k_is); (case d => k_is); (case e => k_is); (case f => k_is); (case r => (refine' Dl.fldT_cons ?a ?b ?c ?d ?e ?f ?r; (case a => k_is); (case b => k_is); (case c => k_is); (case d => k_is); (case e => k_is); (case f => k_is); (case r => (exact Dl.fldT_nil)))))
      f_rest := by (refine' Dl.fldT_cons ?a ?b ?c ?d ?e ?f ?r; (case a => k_is); (case b => k_is); (case c => k_is); (case d => k_is); (case e => k_is); (case f => k_is); (case r => (exact Dl.fldT_nil)))
      f_round := by (refine' Dl.fldT_cons ?a ?b ?c ?d ?e ?f ?r; (case a => k_is); (case b => k_is); (case c => k_is); (case d => k_is); (case e => k_is); (case f => k_is); (case r => (exact Dl.fldT_nil)))
      f_second := by (refine' Dl.fldT_cons ?a ?b ?c ?d ?e ?f ?r; (case a => k_is); (case b => k_is); (case c => k_is); (case d => k_is); (case e => k_is); (case f => k_is); (case r => (exact Dl.fldT_nil)))
      f_sent := by (refine' Dl.fldT_cons ?a ?b ?c ?d ?e ?f ?r; (case a => k_is); (case b => k_is); (case c => k_is); (case d => k_is); (case e => k_is); (case f => k_is); (case r => (refine' Dl.fldT_cons ?a ?b ?c ?d ?e ?f ?r; (case a => k_is); (case b => k_is); (case c => k_is); (case d => k_is); (case e => k_is); (case f => k_is); (case r => (exact Dl.fldT_nil)))))
      f_share := by (refine' Dl.fldT_cons ?a ?b ?c ?d ?e ?f ?r; (case a => k_is); (case b => k_is); (case c => k_is); (case d => k_is); (case e => k_is); (case f => k_is); (case r => (exact Dl.fldT_nil)))
      f_steps := by (refine' Dl.fldT_cons ?a ?b ?c ?d ?e ?f ?r; (case a => k_is); (case b => k_is); (case c => k_is); (case d => k_is); (case e => k_is); (case f => k_is); (case r => (exact Dl.fldT_nil)))
      f_tables := by (refine' Dl.fldT_cons ?a ?b ?c ?d ?e ?f ?r; (case a => k_is); (case b => k_is); (case c => k_is); (case d => k_is); (case e => k_is); (case f => k_is); (case r => (exact Dl.fldT_nil)))
      f_throws := by (refine' Dl.fldT_cons ?a ?b ?c ?d ?e ?f ?r; (case a => k_is); (case b => k_is); (case c => k_is); (case d => k_is); (case e => k_is); (case f => k_is); (case r => (refine' Dl.fldT_cons ?a ?b ?c ?d ?e ?f ?r; (case a => k_is); (case b => k_is); (case c => k_is); (case d => k_is); (case e => k_is); (case f => k_is); (case r => (exact Dl.fldT_nil)))))
      f_used := by (refine' Dl.fldT_cons ?a ?b ?c ?d ?e ?f ?r; (case a => k_is); (case b => k_is); (case c => k_is); (case d => k_is); (case e => k_is); (case f => k_is); (case r => (refine' Dl.fldT_cons ?a ?b ?c ?d ?e ?f ?r; (case a => k_is); (case b => k_is); (case c => k_is); (case d => k_is); (case e => k_is); (case f => k_is); (case r => (exact Dl.fldT_nil)))))
      f_wide := by (refine' Dl.fldT_cons ?a ?b ?c ?d ?e ?f ?r; (case a => k_is); (case b => k_is); (case c => k_is); (case d => k_is); (case e => k_is); (case f => k_is); (case r => (exact Dl.fldT_nil)))
      d_is_prime := by (refine' Dl.defT_mk KX G ?a ?l ?c ?k ?b; (case a => k_is); (case l => k_is); (case c => k_is); (case k => k_is); (case b => exact fun _ _ _ _ _ _ us hl => match us, hl with | [_], _ => rfl))
      d_check_modulus := by (refine' Dl.defT_mk KX G ?a ?l ?c ?k ?b; (case a => k_is); (case l => k_is); (case c => k_is); (case k => k_is); (case b => exact fun _ _ _ _ _ _ us hl => match us, hl with | [_], _ => rfl))
      d_power := by (refine' Dl.defT_mk KX G ?a ?l ?c ?k ?b; (case a => k_is); (case l => k_is); (case c => k_is); (case k => k_is); (case b => exact fun _ _ _ _ _ _ us hl => match us, hl with | [_, _, _], _ => rfl))
      d_inverse := by (refine' Dl.defT_mk KX G ?a ?l ?c ?k ?b; (case a => k_is); (case l => k_is); (case c => k_is); (case k => k_is); (case b => exact fun _ _ _ _ _ _ us hl => match us, hl with | [_, _], _ => rfl))
      d_fits := by (refine' Dl.defT_mk KX G ?a ?l ?c ?k ?b; (case a => k_is); (case l => k_is); (case c => k_is); (case k => k_is); (case b => exact fun _ _ _ _ _ _ us hl => match us, hl with | [_, _], _ => rfl))
      d_is_gate := by (refine' Dl.defT_mk KX G ?a ?l ?c ?k ?b; (case a => k_is); (case l => k_is); (case c => k_is); (case k => k_is); (case b => exact fun _ _ _ _ _ _ us hl => match us, hl with | [_, _, _], _ => rfl))
      d_is_shaped := by (refine' Dl.defT_mk KX G ?a ?l ?c ?k ?b; (case a => k_is); (case l => k_is); (case c => k_is); (case k => k_is); (case b => exact fun _ _ _ _ _ _ us hl => match us, hl with | [_], _ => rfl))
      d_checked := by (refine' Dl.defT_mk KX G ?a ?l ?c ?k ?b; (case a => k_is); (case l => k_is); (case c => k_is); (case k => k_is); (case b => exact fun _ _ _ _ _ _ us hl => match us, hl with | [_], _ => rfl))
      d_modulus := by (refine' Dl.defT_mk KX G ?a ?l ?c ?k ?b; (case a => k_is); (case l => k_is); (case c => k_is); (case k => k_is); (case b => exact fun _ _ _ _ _ _ us hl => match us, hl with | [_], _ => rfl))
      d_depth := by (refine' Dl.defT_mk KX G ?a ?l ?c ?k ?b; (case a => k_is); (case l => k_is); (case c => k_is); (case k => k_is); (case b => exact fun _ _ _ _ _ _ us hl => match us, hl with | [_], _ => rfl))
      d_width := by (refine' Dl.defT_mk KX G ?a ?l ?c ?k ?b; (case a => k_is); (case l => k_is); (case c => k_is); (case k => k_is); (case b => exact fun _ _ _ _ _ _ us hl => match us, hl with | [_, _], _ => rfl))
      d_row_bits := by (refine' Dl.defT_mk KX G ?a ?l ?c ?k ?b; (case a => k_is); (case l => k_is); (case c => k_is); (case k => k_is); (case b => exact fun _ _ _ _ _ _ us hl => match us, hl with | [_], _ => rfl))
      d_checked_rows := by (refine' Dl.defT_mk KX G ?a ?l ?c ?k ?b; (case a => k_is); (case l => k_is); (case c => k_is); (case k => k_is); (case b => exact fun _ _ _ _ _ _ us hl => match us, hl with | [_, _], _ => rfl))
      d_gate_value := by (refine' Dl.defT_mk KX G ?a ?l ?c ?k ?b; (case a => k_is); (case l => k_is); (case c => k_is); (case k => k_is); (case b => exact fun _ _ _ _ _ _ us hl => match us, hl with | [_, _, _], _ => rfl))
      d_run_row := by (refine' Dl.defT_mk KX G ?a ?l ?c ?k ?b; (case a => k_is); (case l => k_is); (case c => k_is); (case k => k_is); (case b => exact fun _ _ _ _ _ _ us hl => match us, hl with | [_, _], _ => rfl))
      d_run := by (refine' Dl.defT_mk KX G ?a ?l ?c ?k ?b; (case a => k_is); (case l => k_is); (case c => k_is); (case k => k_is); (case b => exact fun _ _ _ _ _ _ us hl => match us, hl with | [_, _], _ => rfl))
      d_point_table := by (refine' Dl.defT_mk KX G ?a ?l ?c ?k ?b; (case a => k_is); (case l => k_is); (case c => k_is); (case k => k_is); (case b => exact fun _ _ _ _ _ _ us hl => match us, hl with | [_, _], _ => rfl))
      d_value_at := by (refine' Dl.defT_mk KX G ?a ?l ?c ?k ?b; (case a => k_is); (case l => k_is); (case c => k_is); (case k => k_is); (case b => exact fun _ _ _ _ _ _ us hl => match us, hl with | [_, _, _], _ => rfl))
      d_fold := by (refine' Dl.defT_mk KX G ?a ?l ?c ?k ?b; (case a => k_is); (case l => k_is); (case c => k_is); (case k => k_is); (case b => exact fun _ _ _ _ _ _ us hl => match us, hl with | [_, _, _], _ => rfl))
      d_weighted_gates := by (refine' Dl.defT_mk KX G ?a ?l ?c ?k ?b; (case a => k_is); (case l => k_is); (case c => k_is); (case k => k_is); (case b => exact fun _ _ _ _ _ _ us hl => match us, hl with | [_, _, _], _ => rfl))
      d_gates_sum := by (refine' Dl.defT_mk KX G ?a ?l ?c ?k ?b; (case a => k_is); (case l => k_is); (case c => k_is); (case k => k_is); (case b => exact fun _ _ _ _ _ _ us hl => match us, hl with | [_, _, _], _ => rfl))
      d_at_number := by (refine' Dl.defT_mk KX G ?a ?l ?c ?k ?b; (case a => k_is); (case l => k_is); (case c => k_is); (case k => k_is); (case b => exact fun _ _ _ _ _ _ us hl => match us, hl with | [_, _, _], _ => rfl))
      d_weights_polys := by (refine' Dl.defT2_mk KX G ?a ?l ?c ?k ?b; (case a => k_is); (case l => k_is); (case c => k_is); (case k => k_is); (case b => exact fun _ _ _ _ _ _ us hl => match us, hl with | [_, _, _], _ => rfl))
      d_value := by (refine' Dl.defT_mk KX G ?a ?l ?c ?k ?b; (case a => k_is); (case l => k_is); (case c => k_is); (case k => k_is); (case b => exact fun _ _ _ _ _ _ us hl => match us, hl with | [_, _, _], _ => rfl))
      d_hopeful := by (refine' Dl.defT_mk KX G ?a ?l ?c ?k ?b; (case a => k_is); (case l => k_is); (case c => k_is); (case k => k_is); (case b => exact fun _ _ _ _ _ _ us hl => match us, hl with | [_, _, _, _], _ => rfl))
      d__law_stream := by (refine' Dl.defT_mk KX G ?a ?l ?c ?k ?b; (case a => k_is); (case l => k_is); (case c => k_is); (case k => k_is); (case b => exact fun _ _ _ _ _ _ us hl => match us, hl with | [_], _ => rfl))
      d__law_take := by (refine' Dl.defT_mk KX G ?a ?l ?c ?k ?b; (case a => k_is); (case l => k_is); (case c => k_is); (case k => k_is); (case b => exact fun _ _ _ _ _ _ us hl => match us, hl with | [_, _], _ => rfl))
      d__law_gate := by (refine' Dl.defT_mk KX G ?a ?l ?c ?k ?b; (case a => k_is); (case l => k_is); (case c => k_is); (case k => k_is); (case b => exact fun _ _ _ _ _ _ us hl => match us, hl with | [_, _, _], _ => rfl))
      d__law_circuit := by (refine' Dl.defT_mk KX G ?a ?l ?c ?k ?b; (case a => k_is); (case l => k_is); (case c => k_is); (case k => k_is); (case b => exact fun _ _ _ _ _ _ us hl => match us, hl with | [_, _, _], _ => rfl))
      d__law_inputs := by (refine' Dl.defT_mk KX G ?a ?l ?c ?k ?b; (case a => k_is); (case l => k_is); (case c => k_is); (case k => k_is); (case b => exact fun _ _ _ _ _ _ us hl => match us, hl with | [_, _, _], _ => rfl))
      d__law_near := by (refine' Dl.defT_mk KX G ?a ?l ?c ?k ?b; (case a => k_is); (case l => k_is); (case c => k_is); (case k => k_is); (case b => exact fun _ _ _ _ _ _ us hl => match us, hl with | [_, _, _], _ => rfl))
      d__law_corner := by (refine' Dl.defT_mk KX G ?a ?l ?c ?k ?b; (case a => k_is); (case l => k_is); (case c => k_is); (case k => k_is); (case b => exact fun _ _ _ _ _ _ us hl => match us, hl with | [_, _], _ => rfl))
      d__law_value := by (refine' Dl.defT_mk KX G ?a ?l ?c ?k ?b; (case a => k_is); (case l => k_is); (case c => k_is); (case k => k_is); (case b => exact fun _ _ _ _ _ _ us hl => match us, hl with | [_, _, _], _ => rfl))
      d__law_at := by (refine' Dl.defT_mk KX G ?a ?l ?c ?k ?b; (case a => k_is); (case l => k_is); (case c => k_is); (case k => k_is); (case b => exact fun _ _ _ _ _ _ us hl => match us, hl with | [_, _, _], _ => rfl))
      d_law := by (refine' Dl.defT_mk KX G ?a ?l ?c ?k ?b; (case a => k_is); (case l => k_is); (case c => k_is); (case k => k_is); (case b => exact fun _ _ _ _ _ _ us hl => match us, hl with | [_], _ => rfl))
      k_MAX_GATES := by (refine' Dl.kI_mk KX G ?z ?e; (case z => k_is); (case e => first | rfl | trace_state))
      k_MAX_LAYERS := by (refine' Dl.kI_mk KX G ?z ?e; (case z => k_is); (case e => first | rfl | trace_state))
      k_MAX_ROWS := by (refine' Dl.kI_mk KX G ?z ?e; (case z => k_is); (case e => first | rfl | trace_state))
      k_MAX_WIDTH := by (refine' Dl.kI_mk KX G ?z ?e; (case z => k_is); (case e => first | rfl | trace_state))
      k_MOST := by (refine' Dl.kI_mk KX G ?z ?e; (case z => k_is); (case e => first | rfl | trace_state))
      n_abs := by (refine' PySem.W.mg_none_of KX G ?z; (case z => k_is))
      n_all := by (refine' PySem.W.mg_none_of KX G ?z; (case z => k_is))
      n_bool := by (refine' PySem.W.mg_none_of KX G ?z; (case z => k_is))
      n_enumerate := by (refine' PySem.W.mg_none_of KX G ?z; (case z => k_is))
      n_int := by (refine' PySem.W.mg_none_of KX G ?z; (case z => k_is))
      n_isinstance := by (refine' PySem.W.mg_none_of KX G ?z; (case z => k_is))
      n_len := by (refine' PySem.W.mg_none_of KX G ?z; (case z => k_is))
      n_list := by (refine' PySem.W.mg_none_of KX G ?z; (case z => k_is))
      n_max := by (refine' PySem.W.mg_none_of KX G ?z; (case z => k_is))
      n_range := by (refine' PySem.W.mg_none_of KX G ?z; (case z => k_is))
      n_sum := by (refine' PySem.W.mg_none_of KX G ?z; (case z => k_is))
      n_tuple := by (refine' PySem.W.mg_none_of KX G ?z; (case z => k_is))
      n_zip := by (refine' PySem.W.mg_none_of KX G ?z; (case z => k_is))
      e_FieldError := by (refine' Dl.errT_mk KX G ?a ?c1 ?c2 ?c3 ?c4 ?c5 ?c6 (Dl.hnos_cons ?f1 Dl.hnos_nil) ?i1 ?i2 ?l ?cc ?k ?b; (case a => k_is); (case c1 => k_is); (case c2 => decide +kernel); (case c3 => k_is); (case c4 => k_is); (case c5 => k_is); (case c6 => k_is); (case f1 => k_is); (case i1 => k_is); (case i2 => k_is); (case l => k_is); (case cc => k_is); (case k => k_is); (case b => exact fun _ _ _ _ _ _ us hl => match us, hl with | [_, _], _ => rfl))
      i_FieldError := by (refine' Dl.initB_mk KX G ?a ?b ?c ?d; (case a => k_is); (case b => k_is); (case c => k_is); (case d => k_is))
      e_CircuitError := by (refine' Dl.errT_mk KX G ?a ?c1 ?c2 ?c3 ?c4 ?c5 ?c6 (Dl.hnos_cons ?f1 Dl.hnos_nil) ?i1 ?i2 ?l ?cc ?k ?b; (case a => k_is); (case c1 => k_is); (case c2 => decide +kernel); (case c3 => k_is); (case c4 => k_is); (case c5 => k_is); (case c6 => k_is); (case f1 => k_is); (case i1 => k_is); (case i2 => k_is); (case l => k_is); (case cc => k_is); (case k => k_is); (case b => exact fun _ _ _ _ _ _ us hl => match us, hl with | [_, _], _ => rfl))
      i_CircuitError := by (refine' Dl.initB_mk KX G ?a ?b ?c ?d; (case a => k_is); (case b => k_is); (case c => k_is); (case d => k_is))
      e_SizeError := by (refine' Dl.errT_mk KX G ?a ?c1 ?c2 ?c3 ?c4 ?c5 ?c6 (Dl.hnos_cons ?f1 Dl.hnos_nil) ?i1 ?i2 ?l ?cc ?k ?b; (case a => k_is); (case c1 => k_is); (case c2 => decide +kernel); (case c3 => k_is); (case c4 => k_is); (case c5 => k_is); (case c6 => k_is); (case f1 => k_is); (case i1 => k_is); (case i2 => k_is); (case l => k_is); (case cc => k_is); (case k => k_is); (case b => exact fun _ _ _ _ _ _ us hl => match us, hl with | [_, _], _ => rfl))
      i_SizeError := by (refine' Dl.initB_mk KX G ?a ?b ?c ?d; (case a => k_is); (case b => k_is); (case c => k_is); (case d => k_is))
    }
