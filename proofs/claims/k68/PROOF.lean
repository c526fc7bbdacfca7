import PyProof.Rows.All
import Wide.All
import OpenK.AllK
import Wide.FinOn
import HandS.ForMost
import HandS.ForExc
import HandS.Wide
import HandS.EndBits
import HandS.ExcInit
import HandS.IsInst
import HandS.ExcField
import HandS.ExcIs
import KE.KExcIs
import HandS.TryMany
import HandS.Deep
import HandS.Style
import HandS.CallSlots
import HandS.NoneIn
import PySem.Challenge.RW_layerask_k68_joining_true_claims
set_option Elab.async false
set_option linter.all false
set_option maxRecDepth 100000
set_option maxHeartbeats 4000000

/-! Data level: values as trees, a store of changing objects, readings lifted to them. -/
namespace Dl
open PySem L2

/-- where the class of this name stands -/
def kcl (K : PySem.W.Frag) (c : String) : Addr := match PySem.W.nsIn K mainGlobals (PySem.Str.ofString c) with
  | some (some (.ref C)) => C
  | _ => 0
theorem kcl_of {K : PySem.W.Frag} {c : String} {C : Addr} (h : PySem.W.nsIn K mainGlobals (PySem.Str.ofString c) = some (some (.ref C))) : kcl K c = C := by
  unfold kcl
  rw [h]

theorem ofString_inj {a b : String} : PySem.Str.ofString a = PySem.Str.ofString b ↔ a = b := by
  constructor
  · intro h
    rw [PySem.Str.ofString_eq_toList, PySem.Str.ofString_eq_toList] at h
    have h1 := congrArg (fun s => s.cps.toList) h
    have h2 : a.toList.map Char.toNat = b.toList.map Char.toNat := by simpa using h1
    have h3 : a.toList = b.toList := by
      refine List.map_inj_right (f := Char.toNat) ?_ |>.mp h2
      intro x y e
      exact Char.ext (UInt32.toNat_inj.mp e)
    exact String.ext h3
  · intro h; rw [h]
theorem ofString_beq {a b : String} : (PySem.Str.ofString a == PySem.Str.ofString b) = (a == b) := by
  rw [Bool.eq_iff_iff, beq_iff_eq, beq_iff_eq]
  exact ofString_inj

inductive D where
  | non | bl (b : Bool) | int (i : Int) | str (x : Str) | ty (n : String) | cls (c : String)
  | lst (ds : List D) | tup (ds : List D) | rol (ds : List D) | rot (ds : List D)
  | hnd (k : Nat) | st (k : Nat)
  | exc (a d : Addr) (c : String) (fs : List (String × D))

/-- the drawing state of a law: where it stands (k 0: a list of a list of ints and an int; k 1: a list of ints, the first a place in it) -/
structure LS where
  A : Addr
  c : Addr
  k : Nat
def LS.fp (S : LS) : List Addr := if S.k = 0 then [S.A, S.c] else [S.A]
def LS.ok (S : LS) (H : Hp) : Prop := if S.k = 0 then ∃ (cells : List Int) (seed : Int), H S.A = some (.lst [.ref S.c, .int seed]) ∧ H S.c = some (.lst (cells.map V.int))
  else ∃ (j : Int) (ns : List Int), 1 ≤ j ∧ H S.A = some (.lst ((j :: ns).map V.int))
theorem LS.fr (S : LS) (H H' : Hp) (e : ∀ a ∈ S.fp, H' a = H a) (h : S.ok H) : S.ok H' := by
  unfold LS.ok at *
  unfold LS.fp at e
  by_cases z : S.k = 0
  · rw [if_pos z] at *
    obtain ⟨cells, seed, h1, h2⟩ := h
    exact ⟨cells, seed, by rw [e _ (by simp)]; exact h1, by rw [e _ (by simp)]; exact h2⟩
  · rw [if_neg z] at *
    obtain ⟨j, ns, h0, h1⟩ := h
    exact ⟨j, ns, h0, by rw [e _ (by simp)]; exact h1⟩
/-- what changes -/
inductive MO where
  | lst (ds : List D)
  | ins (C : String) (fs : List (String × D))
  | dead
/-- s: 0 no drawing state yet, 1 there is one, 2 it is opened -/
structure MM where
  M : List MO
  s : Nat
structure Wd where
  F : Hp
  th : List Addr
  S : Option LS

section
variable (K : PySem.W.Frag) (w : Wd)
mutual
def Rep : D → V → Prop
  | .non, v => v = .non
  | .bl b, v => v = .bl b
  | .int i, v => v = .int i
  | .str x, v => v = .str x
  | .ty n, v => v = .ty n
  | .cls c, v => v = .ref (kcl K c)
  | .lst ds, v => ∃ a xs, v = .ref a ∧ w.F a = some (.lst xs) ∧ RepAll ds xs
  | .tup ds, v => ∃ a xs, v = .ref a ∧ w.F a = some (.tup xs) ∧ RepAll ds xs
  | .rol ds, v => ∃ a xs, v = .ref a ∧ SqL K w.F a xs ∧ RepAll ds xs
  | .rot ds, v => ∃ a xs, v = .ref a ∧ SqT K w.F a xs ∧ RepAll ds xs
  | .hnd k, v => ∃ a, v = .ref a ∧ w.th[k]? = some a
  | .st k, v => ∃ S, w.S = some S ∧ S.k = k ∧ v = .ref S.A
  | .exc a d c fs, v => v = .ref a ∧ ∃ xs, w.F d = some (.xd xs) ∧ RepF fs xs
def RepAll : List D → List V → Prop
  | [], vs => vs = []
  | d :: ds, vs => ∃ v r, vs = v :: r ∧ Rep d v ∧ RepAll ds r
def RepF : List (String × D) → List (Str × V) → Prop
  | [], vs => vs = []
  | (f, d) :: ds, vs => ∃ v r, vs = (PySem.Str.ofString f, v) :: r ∧ Rep d v ∧ RepF ds r
end
end

/-- later worlds -/
structure Wd.le (w w' : Wd) : Prop where
  F : ∀ a o, w.F a = some o → w'.F a = some o
  th : ∀ (k : Nat) a, w.th[k]? = some a → w'.th[k]? = some a
  S : ∀ S, w.S = some S → w'.S = some S
theorem Wd.le.refl (w : Wd) : w.le w := ⟨fun _ _ h => h, fun _ _ h => h, fun _ h => h⟩
theorem Wd.le.trans {a b c : Wd} (h : a.le b) (g : b.le c) : a.le c := ⟨fun x o e => g.F x o (h.F x o e), fun k x e => g.th k x (h.th k x e), fun S e => g.S S (h.S S e)⟩

theorem sql_mono {K : PySem.W.Frag} {H H' : Hp} {a : Addr} {xs : List V} (e : ∀ a o, H a = some o → H' a = some o) (h : SqL K H a xs) : SqL K H' a xs := by
  rcases h with (h | ⟨o, h⟩) | h
  · exact .inl (.inl (e _ _ h))
  · exact .inl (.inr ⟨o, e _ _ h⟩)
  · exact .inr h
theorem sqt_mono {K : PySem.W.Frag} {H H' : Hp} {a : Addr} {xs : List V} (e : ∀ a o, H a = some o → H' a = some o) (h : SqT K H a xs) : SqT K H' a xs := by
  rcases h with (h | ⟨o, h⟩) | h
  · exact .inl (.inl (e _ _ h))
  · exact .inl (.inr ⟨o, e _ _ h⟩)
  · exact .inr h
section
variable {K : PySem.W.Frag} {w w' : Wd}
mutual
theorem Rep.mono (l : w.le w') : ∀ (d : D) (v : V), Rep K w d v → Rep K w' d v
  | .non, _, h => h
  | .bl _, _, h => h
  | .int _, _, h => h
  | .str _, _, h => h
  | .ty _, _, h => h
  | .cls _, _, h => h
  | .lst ds, _, h => by
    obtain ⟨a, xs, e, q, r⟩ := h
    exact ⟨a, xs, e, l.F _ _ q, RepAll.mono l ds xs r⟩
  | .tup ds, _, h => by
    obtain ⟨a, xs, e, q, r⟩ := h
    exact ⟨a, xs, e, l.F _ _ q, RepAll.mono l ds xs r⟩
  | .rol ds, _, h => by
    obtain ⟨a, xs, e, q, r⟩ := h
    exact ⟨a, xs, e, sql_mono l.F q, RepAll.mono l ds xs r⟩
  | .rot ds, _, h => by
    obtain ⟨a, xs, e, q, r⟩ := h
    exact ⟨a, xs, e, sqt_mono l.F q, RepAll.mono l ds xs r⟩
  | .hnd k, _, h => by
    obtain ⟨a, e, q⟩ := h
    exact ⟨a, e, l.th _ _ q⟩
  | .st _, _, h => by
    obtain ⟨S, e, q⟩ := h
    exact ⟨S, l.S _ e, q⟩
  | .exc a d c fs, _, h => by
    obtain ⟨e, xs, q, r⟩ := h
    exact ⟨e, xs, l.F _ _ q, RepF.mono l fs xs r⟩
theorem RepAll.mono (l : w.le w') : ∀ (ds : List D) (vs : List V), RepAll K w ds vs → RepAll K w' ds vs
  | [], _, h => h
  | d :: ds, _, h => by
    obtain ⟨v, r, e, a, b⟩ := h
    exact ⟨v, r, e, Rep.mono l d v a, RepAll.mono l ds r b⟩
theorem RepF.mono (l : w.le w') : ∀ (ds : List (String × D)) (vs : List (Str × V)), RepF K w ds vs → RepF K w' ds vs
  | [], _, h => h
  | (f, d) :: ds, _, h => by
    obtain ⟨v, r, e, a, b⟩ := h
    exact ⟨v, r, e, Rep.mono l d v a, RepF.mono l ds r b⟩
end
theorem RepAll.length : ∀ {ds : List D} {vs : List V}, RepAll K w ds vs → vs.length = ds.length
  | [], _, h => by
    have e : _ = [] := h
    subst e; rfl
  | d :: ds, _, h => by
    obtain ⟨v, r, e, a, b⟩ := h
    subst e
    rw [List.length_cons, List.length_cons, RepAll.length b]
theorem RepAll.get : ∀ {ds : List D} {vs : List V} {i : Nat} {d : D}, RepAll K w ds vs → ds[i]? = some d → ∃ v, vs[i]? = some v ∧ Rep K w d v
  | [], _, _, _, _, h => by simp at h
  | d :: ds, _, i, d', h, e => by
    obtain ⟨v, r, rfl, a, b⟩ := h
    cases i with
    | zero => simp at e; subst e; exact ⟨v, rfl, a⟩
    | succ i => exact RepAll.get (i := i) b (by simpa using e)
theorem RepAll.append : ∀ {ds es : List D} {vs us : List V}, RepAll K w ds vs → RepAll K w es us → RepAll K w (ds ++ es) (vs ++ us)
  | [], _, _, _, h, g => by
    have q : _ = [] := h
    subst q; exact g
  | d :: ds, _, _, _, h, g => by
    obtain ⟨v, r, rfl, a, b⟩ := h
    exact ⟨v, _, rfl, a, RepAll.append b g⟩
theorem RepAll.set : ∀ {ds : List D} {vs : List V} {d : D} {v : V} (i : Nat), RepAll K w ds vs → Rep K w d v → RepAll K w (ds.set i d) (vs.set i v)
  | [], _, _, _, _, h, _ => by
    have q : _ = [] := h
    subst q; exact rfl
  | d :: ds, _, d', v', i, h, g => by
    obtain ⟨v, r, rfl, a, b⟩ := h
    cases i with
    | zero => exact ⟨v', r, rfl, g, b⟩
    | succ i => exact ⟨v, _, rfl, a, RepAll.set i b g⟩
theorem RepAll.take : ∀ {ds : List D} {vs : List V} (n : Nat), RepAll K w ds vs → RepAll K w (ds.take n) (vs.take n)
  | [], _, n, h => by
    have q : _ = [] := h
    subst q; simp; exact rfl
  | d :: ds, _, n, h => by
    obtain ⟨v, r, rfl, a, b⟩ := h
    cases n with
    | zero => exact rfl
    | succ n => exact ⟨v, _, rfl, a, RepAll.take n b⟩
theorem RepAll.drop : ∀ {ds : List D} {vs : List V} (n : Nat), RepAll K w ds vs → RepAll K w (ds.drop n) (vs.drop n)
  | [], _, n, h => by
    have q : _ = [] := h
    subst q; simp; exact rfl
  | d :: ds, _, n, h => by
    obtain ⟨v, r, rfl, a, b⟩ := h
    cases n with
    | zero => exact ⟨v, _, rfl, a, b⟩
    | succ n => exact RepAll.drop n b
theorem RepAll.reverse {ds : List D} {vs : List V} (h : RepAll K w ds vs) : RepAll K w ds.reverse vs.reverse := by
  induction ds generalizing vs with
  | nil =>
    have q : vs = [] := h
    subst q; exact rfl
  | cons d ds ih =>
    obtain ⟨v, r, rfl, a, b⟩ := h
    rw [List.reverse_cons, List.reverse_cons]
    exact RepAll.append (ih b) ⟨v, [], rfl, a, rfl⟩
theorem RepF.look : ∀ {ds : List (String × D)} {vs : List (Str × V)} {f : String} {d : D}, RepF K w ds vs → ds.lookup f = some d → ∃ v, vs.lookup (PySem.Str.ofString f) = some v ∧ Rep K w d v
  | [], _, _, _, _, h => by simp at h
  | (g, d) :: ds, _, f, d', h, e => by
    obtain ⟨v, r, rfl, a, b⟩ := h
    rw [List.lookup_cons] at e
    rw [List.lookup_cons, ofString_beq]
    cases hb : f == g with
    | true => rw [hb] at e; simp at e; subst e; exact ⟨v, rfl, a⟩
    | false => rw [hb] at e; exact RepF.look b e
theorem RepF.none : ∀ {ds : List (String × D)} {vs : List (Str × V)} {f : String}, RepF K w ds vs → ds.lookup f = Option.none → vs.lookup (PySem.Str.ofString f) = Option.none
  | [], _, _, h, _ => by
    have q : _ = [] := h
    subst q; rfl
  | (g, d) :: ds, _, f, h, e => by
    obtain ⟨v, r, rfl, a, b⟩ := h
    rw [List.lookup_cons] at e
    rw [List.lookup_cons, ofString_beq]
    cases hb : f == g with
    | true => rw [hb] at e; simp at e
    | false => rw [hb] at e; exact RepF.none b e
theorem RepF.length : ∀ {ds : List (String × D)} {vs : List (Str × V)}, RepF K w ds vs → vs.length = ds.length
  | [], _, h => by
    have e : _ = [] := h
    subst e; rfl
  | (f, d) :: ds, _, h => by
    obtain ⟨v, r, e, a, b⟩ := h
    subst e
    rw [List.length_cons, List.length_cons, RepF.length b]
def putD (f : String) (v : D) : List (String × D) → List (String × D)
  | [] => [(f, v)]
  | (g, x) :: r => if g = f then (g, v) :: r else (g, x) :: putD f v r
theorem RepF.put {f : String} {d : D} {v : V} (g : Rep K w d v) : ∀ {ds : List (String × D)} {vs : List (Str × V)}, RepF K w ds vs → RepF K w (putD f d ds) (putF (PySem.Str.ofString f) v vs)
  | [], _, h => by
    have q : _ = [] := h
    subst q; exact ⟨v, [], rfl, g, rfl⟩
  | (k, d') :: ds, _, h => by
    obtain ⟨u, r, rfl, a, b⟩ := h
    unfold putD putF
    by_cases e : k = f
    · rw [if_pos e, if_pos (ofString_inj.mpr e)]; exact ⟨v, r, by rw [e], g, b⟩
    · rw [if_neg e, if_neg (fun z => e (ofString_inj.mp z))]; exact ⟨u, _, rfl, a, RepF.put g b⟩
end

def ORep (K : PySem.W.Frag) (w : Wd) (H : Hp) (a : Addr) : MO → Prop
  | .lst ds => ∃ xs, H a = some (.lst xs) ∧ RepAll K w ds xs
  | .ins C fs => ∃ dx vs, H a = some (.ins (kcl K C) dx vs) ∧ RepF K w fs vs
  | .dead => ∃ o, H a = some o
theorem ORep.mono {K : PySem.W.Frag} {w w' : Wd} {H H' : Hp} {a : Addr} (l : w.le w') (e : H' a = H a) : ∀ {o : MO}, ORep K w H a o → ORep K w' H' a o
  | .lst ds, h => by
    obtain ⟨xs, q, r⟩ := h
    exact ⟨xs, e.trans q, RepAll.mono l _ _ r⟩
  | .ins C fs, h => by
    obtain ⟨dx, vs, q, r⟩ := h
    exact ⟨dx, vs, e.trans q, RepF.mono l _ _ r⟩
  | .dead, h => by
    obtain ⟨o, q⟩ := h
    exact ⟨o, e.trans q⟩
theorem ORep.there {K : PySem.W.Frag} {w : Wd} {H : Hp} {a : Addr} : ∀ {o : MO}, ORep K w H a o → ∃ o, H a = Option.some o
  | .lst _, ⟨_, q, _⟩ => ⟨_, q⟩
  | .ins _ _, ⟨_, _, q, _⟩ => ⟨_, q⟩
  | .dead, h => h
/-- the heap bears the world and the store -/
structure HRep (K : PySem.W.Frag) (w : Wd) (m : MM) (H : Hp) : Prop where
  ext : ∀ a o, w.F a = some o → H a = some o
  len : w.th.length = m.M.length
  nd : w.th.Nodup
  obj : ∀ (k : Nat) a o, w.th[k]? = some a → m.M[k]? = some o → ORep K w H a o
  thF : ∀ (k : Nat) a o, w.th[k]? = some a → m.M[k]? = some o → o ≠ .dead → w.F a = none
  ls : m.s = 1 → ∀ S, w.S = some S → S.ok H ∧ ∀ a ∈ S.fp, w.F a = none ∧ a ∉ w.th ∧ ∃ o, H a = some o
  flag : (m.s = 0 → w.S = none) ∧ (m.s = 1 → w.S.isSome = true)

abbrev Env := List (Option D)
abbrev XP := String → List (String × D) → MM → Prop
abbrev DE := Env → MM → (D → MM → Prop) → XP → Prop
abbrev DA := Env → MM → (List D → MM → Prop) → XP → Prop
abbrev DT := Env → MM → (Bool → MM → Prop) → XP → Prop
structure DN where
  nx : Env → MM → Prop
  rt : D → MM → Prop
  bk : Env → MM → Prop := fun _ _ => False
  ct : Env → MM → Prop := fun _ _ => False
def Slots (K : PySem.W.Frag) (w : Wd) (σ : St) (ρ : Env) : Prop := σ.length = ρ.length ∧ ∀ (i : Nat) d, ρ[i]? = some (some d) → ∃ v, σ[i]? = some (some v) ∧ Rep K w d v
theorem Slots.mono {K : PySem.W.Frag} {w w' : Wd} {σ : St} {ρ : Env} (l : w.le w') (h : Slots K w σ ρ) : Slots K w' σ ρ := ⟨h.1, fun i d e => let ⟨v, a, b⟩ := h.2 i d e; ⟨v, a, Rep.mono l _ _ b⟩⟩
theorem Slots.set {K : PySem.W.Frag} {w : Wd} {σ : St} {ρ : Env} {d : D} {v : V} (i : Nat) (h : Slots K w σ ρ) (r : Rep K w d v) : Slots K w (σ.set i (some v)) (ρ.set i (some d)) := by
  refine ⟨by rw [List.length_set, List.length_set]; exact h.1, fun j d' e => ?_⟩
  by_cases hj : i = j
  · subst hj
    have hl : i < ρ.length := by
      rcases Nat.lt_or_ge i ρ.length with q | q
      · exact q
      · rw [List.getElem?_eq_none (by simpa using q)] at e; cases e
    rw [List.getElem?_set_self hl] at e
    cases e
    exact ⟨v, by rw [List.getElem?_set_self (by rw [h.1]; exact hl)], r⟩
  · rw [List.getElem?_set_ne hj] at e
    obtain ⟨u, a, b⟩ := h.2 j d' e
    exact ⟨u, by rw [List.getElem?_set_ne hj]; exact a, b⟩
theorem Slots.wipe {K : PySem.W.Frag} {w : Wd} {σ : St} {ρ : Env} (h : Slots K w σ ρ) (i : Nat) : Slots K w (σ.set i none) (ρ.set i none) := by
  refine ⟨by rw [List.length_set, List.length_set]; exact h.1, fun j d' e => ?_⟩
  by_cases hj : i = j
  · subst hj
    by_cases hl : i < ρ.length
    · rw [List.getElem?_set_self hl] at e; cases e
    · rw [List.getElem?_eq_none (by simpa using hl)] at e; cases e
  · rw [List.getElem?_set_ne hj] at e
    obtain ⟨u, a, b⟩ := h.2 j d' e
    exact ⟨u, by rw [List.getElem?_set_ne hj]; exact a, b⟩

def XLift (K : PySem.W.Frag) (w : Wd) (E : WX) (σ : St) (Ψ : XP) : Prop := ∀ C fs m' w' H' d xs, w.le w' → HRep K w' m' H' → w'.F d = some (.xd xs) → RepF K w' fs xs → Ψ C fs m' → E (.ref (kcl K C)) (some d) σ H'
theorem XLift.mono {K : PySem.W.Frag} {w w' : Wd} {E : WX} {σ : St} {Ψ : XP} (l : w.le w') (h : XLift K w E σ Ψ) : XLift K w' E σ Ψ := fun C fs m' w2 H' d xs l2 a b c q => h C fs m' w2 H' d xs (l.trans l2) a b c q
def VLift (K : PySem.W.Frag) (w : Wd) (Q : VK) (Φ : D → MM → Prop) : Prop := ∀ d m' w' H' v, w.le w' → HRep K w' m' H' → Rep K w' d v → Φ d m' → Q v H'
theorem VLift.mono {K : PySem.W.Frag} {w w' : Wd} {Q : VK} {Φ : D → MM → Prop} (l : w.le w') (h : VLift K w Q Φ) : VLift K w' Q Φ := fun d m' w2 H' v l2 a b c => h d m' w2 H' v (l.trans l2) a b c
def SLift (K : PySem.W.Frag) (w : Wd) (Q : St → Hp → Prop) (Φ : Env → MM → Prop) : Prop := ∀ ρ m' w' H' σ, w.le w' → HRep K w' m' H' → Slots K w' σ ρ → Φ ρ m' → Q σ H'
theorem SLift.mono {K : PySem.W.Frag} {w w' : Wd} {Q : St → Hp → Prop} {Φ : Env → MM → Prop} (l : w.le w') (h : SLift K w Q Φ) : SLift K w' Q Φ := fun d m' w2 H' v l2 a b c => h d m' w2 H' v (l.trans l2) a b c
structure NLift (K : PySem.W.Frag) (w : Wd) (D : Ends) (N : DN) : Prop where
  nx : SLift K w D.nx N.nx
  rt : VLift K w D.rt N.rt
  bk : SLift K w D.bk N.bk
  ct : SLift K w D.ct N.ct
theorem NLift.mono {K : PySem.W.Frag} {w w' : Wd} {D : Ends} {N : DN} (l : w.le w') (h : NLift K w D N) : NLift K w' D N := ⟨h.nx.mono l, h.rt.mono l, h.bk.mono l, h.ct.mono l⟩

abbrev XS := Env → XP
def SX (K : PySem.W.Frag) (w : Wd) (E : WX) (Ψ : XS) : Prop := ∀ ρ σ w1, w.le w1 → Slots K w1 σ ρ → XLift K w1 E σ (Ψ ρ)
theorem SX.mono {K : PySem.W.Frag} {w w' : Wd} {E : WX} {Ψ : XS} (l : w.le w') (h : SX K w E Ψ) : SX K w' E Ψ := fun ρ σ w1 l1 s => h ρ σ w1 (l.trans l1) s
structure At (K : PySem.W.Frag) (E : WX) (w : Wd) (σ : St) (H : Hp) (ρ : Env) (m : MM) (Ψ : XP) : Prop where
  h : HRep K w m H
  s : Slots K w σ ρ
  x : XLift K w E σ Ψ
theorem At.to {K : PySem.W.Frag} {E : WX} {w w' : Wd} {σ : St} {H H' : Hp} {ρ : Env} {m m' : MM} {Ψ : XP} (a : At K E w σ H ρ m Ψ) (l : w.le w') (h : HRep K w' m' H') : At K E w' σ H' ρ m' Ψ := ⟨h, a.s.mono l, a.x.mono l⟩
structure AtS (K : PySem.W.Frag) (E : WX) (w : Wd) (σ : St) (H : Hp) (ρ : Env) (m : MM) (Ψ : XS) : Prop where
  h : HRep K w m H
  s : Slots K w σ ρ
  x : SX K w E Ψ
theorem AtS.to {K : PySem.W.Frag} {E : WX} {w w' : Wd} {σ : St} {H H' : Hp} {ρ : Env} {m m' : MM} {Ψ : XS} (a : AtS K E w σ H ρ m Ψ) (l : w.le w') (h : HRep K w' m' H') : AtS K E w' σ H' ρ m' Ψ := ⟨h, a.s.mono l, a.x.mono l⟩
theorem AtS.at {K : PySem.W.Frag} {E : WX} {w : Wd} {σ : St} {H : Hp} {ρ : Env} {m : MM} {Ψ : XS} (a : AtS K E w σ H ρ m Ψ) : At K E w σ H ρ m (Ψ ρ) := ⟨a.h, a.s, a.x ρ σ w (Wd.le.refl w) a.s⟩
abbrev DS := DN → XS → Env → MM → Prop
def lift (K : PySem.W.Frag) (E : WX) (W : DE) : TE := fun σ H Q => ∃ w ρ m Ψ Φ, At K E w σ H ρ m Ψ ∧ VLift K w Q Φ ∧ W ρ m Φ Ψ
def liftA (K : PySem.W.Frag) (E : WX) (W : DA) : TA := fun σ H Q => ∃ w ρ m Ψ Φ, At K E w σ H ρ m Ψ ∧ (∀ ds m' w' H' vs, w.le w' → HRep K w' m' H' → RepAll K w' ds vs → Φ ds m' → Q vs H') ∧ W ρ m Φ Ψ
def liftT (K : PySem.W.Frag) (E : WX) (W : DT) : TT := fun σ H Q => ∃ w ρ m Ψ Φ, At K E w σ H ρ m Ψ ∧ (∀ b m' w' H', w.le w' → HRep K w' m' H' → Φ b m' → Q b H') ∧ W ρ m Φ Ψ
def liftS (K : PySem.W.Frag) (E : WX) (W : DS) : TS := fun D σ H => ∃ w ρ m Ψ N, AtS K E w σ H ρ m Ψ ∧ NLift K w D N ∧ W N Ψ ρ m

/-! ### judgements -/
abbrev JE (X : Cx) (E : WX) (e : Expr) (W : DE) : Prop := PE X e (lift X.K E W)
abbrev JA (X : Cx) (E : WX) (es : List Expr) (W : DA) : Prop := PA X es (liftA X.K E W)
abbrev JT (X : Cx) (E : WX) (e : Expr) (W : DT) : Prop := PT X e (liftT X.K E W)
abbrev JW (X : Cx) (E : WX) (e : Expr) (W : DT) : Prop := PW X e (liftT X.K E W)
abbrev JS (X : Cx) (E : WX) (st : Stmt) (W : DS) : Prop := PS X st (liftS X.K E W)
abbrev JSs (X : Cx) (E : WX) (st : List Stmt) (W : DS) : Prop := PSs X st (liftS X.K E W)
theorem PE.imp {X : Cx} {e : Expr} {t t' : TE} (h : PE X e t) (i : ∀ σ H Q, t' σ H Q → t σ H Q) : PE X e t' := ⟨fun pins s σ H Q I q => h.run pins s σ H Q I (i σ H Q q)⟩
theorem PA.imp {X : Cx} {e : List Expr} {t t' : TA} (h : PA X e t) (i : ∀ σ H Q, t' σ H Q → t σ H Q) : PA X e t' := ⟨fun pos pins s σ H Q I q => h.run pos pins s σ H Q I (i σ H Q q)⟩
theorem PT.imp {X : Cx} {e : Expr} {t t' : TT} (h : PT X e t) (i : ∀ σ H Q, t' σ H Q → t σ H Q) : PT X e t' := ⟨fun pins s σ H Q I q => h.run pins s σ H Q I (i σ H Q q)⟩
theorem PW.imp {X : Cx} {e : Expr} {t t' : TT} (h : PW X e t) (i : ∀ σ H Q, t' σ H Q → t σ H Q) : PW X e t' := ⟨fun wh pins s σ H Q I q => h.run wh pins s σ H Q I (i σ H Q q)⟩
theorem PS.imp {X : Cx} {e : Stmt} {t t' : TS} (h : PS X e t) (i : ∀ D σ H, t' D σ H → t D σ H) : PS X e t' := ⟨fun pins s σ H D I q => h.run pins s σ H D I (i D σ H q)⟩
theorem PSs.imp {X : Cx} {e : List Stmt} {t t' : TS} (h : PSs X e t) (i : ∀ D σ H, t' D σ H → t D σ H) : PSs X e t' := ⟨fun pins s σ H D I q => h.run pins s σ H D I (i D σ H q)⟩
end Dl

namespace Dl
open PySem L2
section
variable {K : PySem.W.Frag} {w w' : Wd} {m m' : MM} {H H' : Hp} {p a : Addr} {ho : HO} {k : Nat}

theorem ORep.ex (e : ∀ a o, H a = some o → H' a = some o) : ∀ {o : MO}, ORep K w H a o → ORep K w H' a o
  | .lst ds, ⟨xs, q, r⟩ => ⟨xs, e _ _ q, r⟩
  | .ins C fs, ⟨dx, vs, q, r⟩ => ⟨dx, vs, e _ _ q, r⟩
  | .dead, ⟨o, q⟩ => ⟨o, e _ _ q⟩
theorem HRep.ex (h : HRep K w m H) (e : ∀ a o, H a = some o → H' a = some o) : HRep K w m H' where
  ext := fun a o q => e a o (h.ext a o q)
  len := h.len
  nd := h.nd
  obj := fun k a o q1 q2 => (h.obj k a o q1 q2).ex e
  thF := h.thF
  ls := fun s1 S q => by
    obtain ⟨h1, h2⟩ := h.ls s1 S q
    refine ⟨S.fr H H' (fun a ha => ?_) h1, fun a ha => ?_⟩
    · obtain ⟨_, _, o, ho⟩ := h2 a ha
      rw [ho, e a o ho]
    · obtain ⟨q1, q2, o, ho⟩ := h2 a ha
      exact ⟨q1, q2, o, e a o ho⟩
  flag := h.flag
theorem HRep.thO (h : HRep K w m H) {k : Nat} {a : Addr} (e : w.th[k]? = some a) : ∃ o, m.M[k]? = some o ∧ ORep K w H a o := by
  have hk : k < w.th.length := (List.getElem?_eq_some_iff.mp e).1
  rw [h.len] at hk
  exact ⟨m.M[k], List.getElem?_eq_getElem hk, h.obj k a _ e (List.getElem?_eq_getElem hk)⟩
theorem HRep.thH (h : HRep K w m H) {a : Addr} (e : a ∈ w.th) : ∃ o, H a = some o := by
  obtain ⟨k, hk, rfl⟩ := List.mem_iff_getElem.mp e
  obtain ⟨o, _, q⟩ := h.thO (List.getElem?_eq_getElem hk)
  exact q.there
theorem HRep.nof (h : HRep K w m H) (hp : H p = none) : w.F p = none := by
  cases q : w.F p with
  | none => rfl
  | some o => rw [h.ext p o q] at hp; cases hp
theorem HRep.not (h : HRep K w m H) (hp : H p = none) : p ∉ w.th := fun z => by
  obtain ⟨o, q⟩ := h.thH z
  rw [hp] at q; cases q

/-- a new frozen object -/
def Wd.put (w : Wd) (p : Addr) (ho : HO) : Wd := ⟨upd w.F p ho, w.th, w.S⟩
theorem Wd.le_put (h : w.F p = none) : w.le (w.put p ho) := ⟨fun a o e => by show upd w.F p ho a = some o; rw [upd_ne (ne_of_none e h)]; exact e, fun _ _ e => e, fun _ e => e⟩
theorem ex_new (hp : H p = none) : ∀ a o, H a = some o → upd H p ho a = some o := fun a o e => by rw [upd_ne (ne_of_none e hp)]; exact e
theorem HRep.put (h : HRep K w m H) (hp : H p = none) : HRep K (w.put p ho) m (upd H p ho) where
  ext := fun a o q => by
    have q : upd w.F p ho a = some o := q
    by_cases e : a = p
    · subst e; rw [upd_same] at q ⊢; exact q
    · rw [upd_ne e] at q ⊢; exact h.ext a o q
  len := h.len
  nd := h.nd
  obj := fun k a o q1 q2 => by
    have z := h.obj k a o q1 q2
    have ne : a ≠ p := fun e => h.not hp (by rw [← e]; exact List.mem_of_getElem? q1)
    exact z.mono (Wd.le_put (h.nof hp)) (upd_ne ne)
  thF := fun k a o q1 q2 q3 => by
    have ne : a ≠ p := fun e => h.not hp (by rw [← e]; exact List.mem_of_getElem? q1)
    show upd w.F p ho a = none
    rw [upd_ne ne]; exact h.thF k a o q1 q2 q3
  ls := fun s1 S q => by
    obtain ⟨h1, h2⟩ := h.ls s1 S q
    have ne : ∀ a ∈ S.fp, a ≠ p := fun a ha e => by
      obtain ⟨_, _, o, ho⟩ := h2 a ha
      rw [e, hp] at ho; cases ho
    refine ⟨S.fr H _ (fun a ha => upd_ne (ne a ha)) h1, fun a ha => ?_⟩
    obtain ⟨q1, q2, o, q3⟩ := h2 a ha
    refine ⟨?_, q2, o, by rw [upd_ne (ne a ha)]; exact q3⟩
    show upd w.F p ho a = none
    rw [upd_ne (ne a ha)]; exact q1
  flag := h.flag
theorem rep_put_lst {ds : List D} {xs : List V} (h : HRep K w m H) (hp : H p = none) (r : RepAll K w ds xs) : Rep K (w.put p (.lst xs)) (.lst ds) (.ref p) :=
  ⟨p, xs, rfl, upd_same, RepAll.mono (Wd.le_put (h.nof hp)) _ _ r⟩
theorem rep_put_tup {ds : List D} {xs : List V} (h : HRep K w m H) (hp : H p = none) (r : RepAll K w ds xs) : Rep K (w.put p (.tup xs)) (.tup ds) (.ref p) :=
  ⟨p, xs, rfl, upd_same, RepAll.mono (Wd.le_put (h.nof hp)) _ _ r⟩

/-- a new changing object -/
def Wd.add (w : Wd) (p : Addr) : Wd := ⟨w.F, w.th ++ [p], w.S⟩
def MM.push (m : MM) (o : MO) : MM := ⟨m.M ++ [o], m.s⟩
theorem Wd.le_add : w.le (w.add p) := ⟨fun _ _ e => e, fun k a e => by
  show (w.th ++ [p])[k]? = some a
  rw [List.getElem?_append_left (List.getElem?_eq_some_iff.mp e).1]; exact e, fun _ e => e⟩
theorem HRep.add {o : MO} (h : HRep K w m H) (hp : H p = none) (ob : ORep K (w.add p) (upd H p ho) p o) : HRep K (w.add p) (m.push o) (upd H p ho) where
  ext := fun a o q => ex_new hp a o (h.ext a o q)
  len := by show (w.th ++ [p]).length = (m.M ++ [o]).length; rw [List.length_append, List.length_append, h.len]; rfl
  nd := by
    show (w.th ++ [p]).Nodup
    rw [List.nodup_append]
    refine ⟨h.nd, by simp, fun a ha b hb e => ?_⟩
    have e2 : b = p := by simpa using hb
    subst e2; subst e
    exact h.not hp ha
  obj := fun k a o' q1 q2 => by
    have q1 : (w.th ++ [p])[k]? = some a := q1
    have q2 : (m.M ++ [o])[k]? = some o' := q2
    rcases Nat.lt_or_ge k w.th.length with hk | hk
    · rw [List.getElem?_append_left hk] at q1
      rw [List.getElem?_append_left (by rw [← h.len]; exact hk)] at q2
      have ne : a ≠ p := fun e => h.not hp (by rw [← e]; exact List.mem_of_getElem? q1)
      exact (h.obj k a o' q1 q2).mono Wd.le_add (upd_ne ne)
    · rw [List.getElem?_append_right hk] at q1
      rw [List.getElem?_append_right (by rw [← h.len]; exact hk)] at q2
      have hk2 : k = w.th.length := by
        have z := (List.getElem?_eq_some_iff.mp q1).1
        simp at z; omega
      subst hk2
      rw [Nat.sub_self] at q1
      rw [h.len, Nat.sub_self] at q2
      simp at q1 q2
      subst q1; subst q2
      exact ob
  thF := fun k a o' q1 q2 q3 => by
    have q1 : (w.th ++ [p])[k]? = some a := q1
    have q2 : (m.M ++ [o])[k]? = some o' := q2
    show w.F a = none
    rcases Nat.lt_or_ge k w.th.length with hk | hk
    · rw [List.getElem?_append_left hk] at q1
      rw [List.getElem?_append_left (by rw [← h.len]; exact hk)] at q2
      exact h.thF k a o' q1 q2 q3
    · rw [List.getElem?_append_right hk] at q1
      have z : a ∈ [p] := List.mem_of_getElem? q1
      have e : a = p := by simpa using z
      rw [e]; exact h.nof hp
  ls := fun s1 S q => by
    obtain ⟨h1, h2⟩ := h.ls s1 S q
    have ne : ∀ a ∈ S.fp, a ≠ p := fun a ha e => by
      obtain ⟨_, _, o, ho⟩ := h2 a ha
      rw [e, hp] at ho; cases ho
    refine ⟨S.fr H _ (fun a ha => upd_ne (ne a ha)) h1, fun a ha => ?_⟩
    obtain ⟨q1, q2, o, q3⟩ := h2 a ha
    refine ⟨q1, ?_, o, by rw [upd_ne (ne a ha)]; exact q3⟩
    show a ∉ w.th ++ [p]
    simp only [List.mem_append, List.mem_singleton, not_or]
    exact ⟨q2, ne a ha⟩
  flag := h.flag
theorem rep_add (h : HRep K w m H) : Rep K (w.add p) (.hnd m.M.length) (.ref p) := ⟨p, rfl, by
  show (w.th ++ [p])[m.M.length]? = some p
  rw [← h.len, List.getElem?_append_right (Nat.le_refl _)]; simp⟩

/-- a changing object is written -/
theorem HRep.wr {o o' : MO} (h : HRep K w m H) (e : w.th[k]? = some a) (eo : m.M[k]? = some o) (hd : o ≠ .dead) (ob : ORep K w (upd H a ho) a o') : HRep K w ⟨m.M.set k o', m.s⟩ (upd H a ho) where
  ext := fun b u q => by
    have ne : b ≠ a := fun z => by rw [z, h.thF k a o e eo hd] at q; cases q
    rw [upd_ne ne]; exact h.ext b u q
  len := by show w.th.length = (m.M.set k o').length; rw [List.length_set]; exact h.len
  nd := h.nd
  obj := fun j b u q1 q2 => by
    have q2 : (m.M.set k o')[j]? = some u := q2
    by_cases hj : k = j
    · subst hj
      rw [e] at q1; cases q1
      rw [List.getElem?_set_self (List.getElem?_eq_some_iff.mp eo).1] at q2
      cases q2; exact ob
    · rw [List.getElem?_set_ne hj] at q2
      have ne : b ≠ a := fun z => hj (by
        subst z
        obtain ⟨k1, k2⟩ := List.getElem?_eq_some_iff.mp e
        obtain ⟨j1, j2⟩ := List.getElem?_eq_some_iff.mp q1
        exact (List.getElem_inj h.nd).mp (k2.trans j2.symm))
      exact (h.obj j b u q1 q2).mono (Wd.le.refl w) (upd_ne ne)
  thF := fun j b u q1 q2 q3 => by
    have q2 : (m.M.set k o')[j]? = some u := q2
    by_cases hj : k = j
    · subst hj
      rw [e] at q1; cases q1
      exact h.thF k a o e eo hd
    · rw [List.getElem?_set_ne hj] at q2
      exact h.thF j b u q1 q2 q3
  ls := fun s1 S q => by
    obtain ⟨h1, h2⟩ := h.ls s1 S q
    have ne : ∀ b ∈ S.fp, b ≠ a := fun b hb z => (h2 b hb).2.1 (by rw [z]; exact List.mem_of_getElem? e)
    refine ⟨S.fr H _ (fun b hb => upd_ne (ne b hb)) h1, fun b hb => ?_⟩
    obtain ⟨q1, q2, o, q3⟩ := h2 b hb
    exact ⟨q1, q2, o, by rw [upd_ne (ne b hb)]; exact q3⟩
  flag := h.flag
/-- a changing list is frozen -/
theorem HRep.frz {ds : List D} (h : HRep K w m H) (e : w.th[k]? = some a) (eo : m.M[k]? = some (.lst ds)) : ∃ xs, w.F a = none ∧ H a = some (.lst xs) ∧ RepAll K w ds xs ∧ HRep K (w.put a (.lst xs)) ⟨m.M.set k .dead, m.s⟩ H := by
  obtain ⟨xs, hx, r⟩ := h.obj k a _ e eo
  have fa := h.thF k a _ e eo (fun z => by cases z)
  refine ⟨xs, fa, hx, r, ?_⟩
  have le := Wd.le_put (ho := .lst xs) fa
  have nea : ∀ {j : Nat} {b : Addr}, w.th[j]? = some b → b = a → k = j := fun {j b} q1 z => by
    subst z
    obtain ⟨k1, k2⟩ := List.getElem?_eq_some_iff.mp e
    obtain ⟨j1, j2⟩ := List.getElem?_eq_some_iff.mp q1
    exact (List.getElem_inj h.nd).mp (k2.trans j2.symm)
  exact {
    ext := fun b u q => by
      have q : upd w.F a (.lst xs) b = some u := q
      by_cases z : b = a
      · subst z; rw [upd_same] at q; cases q; exact hx
      · rw [upd_ne z] at q; exact h.ext b u q
    len := by show w.th.length = (m.M.set k .dead).length; rw [List.length_set]; exact h.len
    nd := h.nd
    obj := fun j b u q1 q2 => by
      have q2 : (m.M.set k .dead)[j]? = some u := q2
      by_cases hj : k = j
      · subst hj
        have q1 : w.th[k]? = some b := q1
        rw [e] at q1; cases q1
        rw [List.getElem?_set_self (List.getElem?_eq_some_iff.mp eo).1] at q2
        cases q2; exact ⟨_, hx⟩
      · rw [List.getElem?_set_ne hj] at q2
        exact (h.obj j b u q1 q2).mono le rfl
    thF := fun j b u q1 q2 q3 => by
      have q2 : (m.M.set k .dead)[j]? = some u := q2
      have q1 : w.th[j]? = some b := q1
      by_cases hj : k = j
      · subst hj
        rw [List.getElem?_set_self (List.getElem?_eq_some_iff.mp eo).1] at q2
        cases q2; exact absurd rfl q3
      · rw [List.getElem?_set_ne hj] at q2
        show upd w.F a (.lst xs) b = none
        rw [upd_ne (fun z => hj (nea q1 z))]
        exact h.thF j b u q1 q2 q3
    ls := fun s1 S q => by
      obtain ⟨h1, h2⟩ := h.ls s1 S q
      refine ⟨h1, fun b hb => ?_⟩
      obtain ⟨q1, q2, o, q3⟩ := h2 b hb
      refine ⟨?_, q2, o, q3⟩
      show upd w.F a (.lst xs) b = none
      rw [upd_ne (fun z => q2 (by rw [z]; exact List.mem_of_getElem? e))]; exact q1
    flag := h.flag }
/-- the last objects are let go -/
def Wd.cut (w : Wd) (n : Nat) : Wd := ⟨w.F, w.th.take n, w.S⟩
def MM.cut (m : MM) (n : Nat) : MM := ⟨m.M.take n, m.s⟩
mutual
def clD (n : Nat) : D → Bool
  | .hnd k => decide (k < n)
  | .lst ds => clAll n ds
  | .tup ds => clAll n ds
  | .rol ds => clAll n ds
  | .rot ds => clAll n ds
  | .exc _ _ _ fs => clF n fs
  | _ => true
def clAll (n : Nat) : List D → Bool
  | [] => true
  | d :: ds => clD n d && clAll n ds
def clF (n : Nat) : List (String × D) → Bool
  | [] => true
  | (_, d) :: ds => clD n d && clF n ds
end
def clO (n : Nat) : MO → Bool
  | .lst ds => clAll n ds
  | .ins _ fs => clF n fs
  | .dead => true
mutual
theorem Rep.cl : ∀ (d : D) (v : V), Rep K w d v → clD w.th.length d = true
  | .non, _, _ => rfl
  | .bl _, _, _ => rfl
  | .int _, _, _ => rfl
  | .str _, _, _ => rfl
  | .ty _, _, _ => rfl
  | .cls _, _, _ => rfl
  | .st _, _, _ => rfl
  | .lst ds, _, ⟨_, xs, _, _, r⟩ => RepAll.cl ds xs r
  | .tup ds, _, ⟨_, xs, _, _, r⟩ => RepAll.cl ds xs r
  | .rol ds, _, ⟨_, xs, _, _, r⟩ => RepAll.cl ds xs r
  | .rot ds, _, ⟨_, xs, _, _, r⟩ => RepAll.cl ds xs r
  | .exc _ _ _ fs, _, ⟨_, xs, _, r⟩ => RepF.cl fs xs r
  | .hnd k, _, ⟨a, _, q⟩ => by
    show decide (k < w.th.length) = true
    exact decide_eq_true (List.getElem?_eq_some_iff.mp q).1
theorem RepAll.cl : ∀ (ds : List D) (vs : List V), RepAll K w ds vs → clAll w.th.length ds = true
  | [], _, _ => rfl
  | d :: ds, _, ⟨v, r, _, a, b⟩ => by
    show (clD _ d && clAll _ ds) = true
    rw [Rep.cl d v a, RepAll.cl ds r b]; rfl
theorem RepF.cl : ∀ (ds : List (String × D)) (vs : List (Str × V)), RepF K w ds vs → clF w.th.length ds = true
  | [], _, _ => rfl
  | (f, d) :: ds, _, ⟨v, r, _, a, b⟩ => by
    show (clD _ d && clF _ ds) = true
    rw [Rep.cl d v a, RepF.cl ds r b]; rfl
end
mutual
theorem Rep.cut {n : Nat} : ∀ (d : D) (v : V), Rep K w d v → clD n d = true → Rep K (w.cut n) d v
  | .non, _, h, _ => h
  | .bl _, _, h, _ => h
  | .int _, _, h, _ => h
  | .str _, _, h, _ => h
  | .ty _, _, h, _ => h
  | .cls _, _, h, _ => h
  | .st _, _, h, _ => h
  | .lst ds, _, ⟨a, xs, e, q, r⟩, c => ⟨a, xs, e, q, RepAll.cut ds xs r c⟩
  | .tup ds, _, ⟨a, xs, e, q, r⟩, c => ⟨a, xs, e, q, RepAll.cut ds xs r c⟩
  | .rol ds, _, ⟨a, xs, e, q, r⟩, c => ⟨a, xs, e, q, RepAll.cut ds xs r c⟩
  | .rot ds, _, ⟨a, xs, e, q, r⟩, c => ⟨a, xs, e, q, RepAll.cut ds xs r c⟩
  | .exc _ _ _ fs, _, ⟨e, xs, q, r⟩, c => ⟨e, xs, q, RepF.cut fs xs r c⟩
  | .hnd k, _, ⟨a, e, q⟩, c => ⟨a, e, by
    have c : decide (k < n) = true := c
    have c := of_decide_eq_true c
    show (w.th.take n)[k]? = some a
    rw [List.getElem?_take_of_lt c]; exact q⟩
theorem RepAll.cut {n : Nat} : ∀ (ds : List D) (vs : List V), RepAll K w ds vs → clAll n ds = true → RepAll K (w.cut n) ds vs
  | [], _, h, _ => h
  | d :: ds, _, ⟨v, r, e, a, b⟩, c => by
    have c : (clD n d && clAll n ds) = true := c
    rw [Bool.and_eq_true] at c
    exact ⟨v, r, e, Rep.cut d v a c.1, RepAll.cut ds r b c.2⟩
theorem RepF.cut {n : Nat} : ∀ (ds : List (String × D)) (vs : List (Str × V)), RepF K w ds vs → clF n ds = true → RepF K (w.cut n) ds vs
  | [], _, h, _ => h
  | (f, d) :: ds, _, ⟨v, r, e, a, b⟩, c => by
    have c : (clD n d && clF n ds) = true := c
    rw [Bool.and_eq_true] at c
    exact ⟨v, r, e, Rep.cut d v a c.1, RepF.cut ds r b c.2⟩
end
theorem ORep.cut {n : Nat} : ∀ {o : MO}, ORep K w H a o → clO n o = true → ORep K (w.cut n) H a o
  | .lst ds, ⟨xs, q, r⟩, c => ⟨xs, q, RepAll.cut ds xs r c⟩
  | .ins C fs, ⟨dx, vs, q, r⟩, c => ⟨dx, vs, q, RepF.cut fs vs r c⟩
  | .dead, h, _ => h
theorem ORep.cl : ∀ {o : MO}, ORep K w H a o → clO w.th.length o = true
  | .lst ds, ⟨xs, q, r⟩ => RepAll.cl ds xs r
  | .ins C fs, ⟨dx, vs, q, r⟩ => RepF.cl fs vs r
  | .dead, h => rfl
theorem HRep.cut {n : Nat} (h : HRep K w m H) (c : ∀ o ∈ m.M.take n, clO n o = true) : HRep K (w.cut n) (m.cut n) H where
  ext := h.ext
  len := by show (w.th.take n).length = (m.M.take n).length; rw [List.length_take, List.length_take, h.len]
  nd := h.nd.sublist (List.take_sublist _ _)
  obj := fun k a o q1 q2 => by
    have q1 : (w.th.take n)[k]? = some a := q1
    have q2 : (m.M.take n)[k]? = some o := q2
    have hk : k < n := by
      have z := (List.getElem?_eq_some_iff.mp q1).1
      rw [List.length_take] at z; omega
    have cc := c o (List.mem_of_getElem? q2)
    rw [List.getElem?_take_of_lt hk] at q1 q2
    exact (h.obj k a o q1 q2).cut cc
  thF := fun k a o q1 q2 q3 => by
    have q1 : (w.th.take n)[k]? = some a := q1
    have q2 : (m.M.take n)[k]? = some o := q2
    have hk : k < n := by
      have z := (List.getElem?_eq_some_iff.mp q1).1
      rw [List.length_take] at z; omega
    rw [List.getElem?_take_of_lt hk] at q1 q2
    exact h.thF k a o q1 q2 q3
  ls := fun s1 S q => by
    obtain ⟨h1, h2⟩ := h.ls s1 S q
    exact ⟨h1, fun a ha => ⟨(h2 a ha).1, fun z => (h2 a ha).2.1 (List.mem_of_mem_take z), (h2 a ha).2.2⟩⟩
  flag := h.flag
/-- objects as they were at an entry bear no later handles -/
theorem HRep.cls (h : HRep K w m H) : ∀ o ∈ m.M, clO m.M.length o = true := fun o ho => by
  obtain ⟨k, hk, rfl⟩ := List.mem_iff_getElem.mp ho
  have hk2 : k < w.th.length := by rw [h.len]; exact hk
  have z := (h.obj k _ _ (List.getElem?_eq_getElem hk2) (List.getElem?_eq_getElem hk)).cl
  rw [h.len] at z; exact z
theorem Wd.le_cut {w0 : Wd} {n : Nat} (l : w0.le w) (hn : w0.th.length ≤ n) : w0.le (w.cut n) := ⟨l.F, fun k a e => by
  show (w.th.take n)[k]? = some a
  rw [List.getElem?_take_of_lt (Nat.lt_of_lt_of_le (List.getElem?_eq_some_iff.mp e).1 hn)]; exact l.th k a e, l.S⟩
end
end Dl

namespace Dl
open PySem L2 PyProof.Rows

/-! ### expressions -/
def dVar (i : Nat) : DE := fun ρ m Φ _ => match ρ[i]? with
  | some (some d) => Φ d m
  | _ => False
def dC (d : D) : DE := fun _ m Φ _ => Φ d m
section
variable {X : Cx} {E : WX} {a b c : Expr} {Wa Wb Wc : DE} {pos : Pos}
theorem je_var (i : Nat) {x : Str} {pos : Pos} (hN : X.N[i]? = some x := by rfl) (hv : Vis X.env.scope x := by first | exact Or.inl rfl | exact Or.inr (Or.inl rfl) | exact Or.inr (Or.inr rfl)) (hd : (x == ("__debug__" : Str)) = false := by decide)
    (hcd : (x == ("__classdict__" : Str)) = false := by decide) : JE X E (.Name x pos) (dVar i) := PE.imp (pe_var hN hv hd hcd) fun σ H Q ⟨w, ρ, m, Ψ, Φ, a, vl, h⟩ => by
  unfold dVar at h
  split at h
  · rename_i d e
    obtain ⟨v, e1, r⟩ := a.s.2 i d e
    exact ⟨v, e1, vl d m w H v (.refl w) a.h r h⟩
  · exact h.elim
theorem je_of {e : Expr} {v : V} {d : D} (h : PE X e (tC v)) (r : ∀ w, Rep X.K w d v) : JE X E e (dC d) := PE.imp h fun σ H Q ⟨w, ρ, m, Ψ, Φ, a, vl, h⟩ => vl d m w H v (.refl w) a.h (r w) h
theorem je_int {i j pos} : JE X E (.Constant (.int i) j pos) (dC (.int i)) := je_of pe_int fun _ => rfl
theorem je_bl {b j pos} : JE X E (.Constant (.bool b) j pos) (dC (.bl b)) := je_of pe_bl fun _ => rfl
theorem je_non {j pos} : JE X E (.Constant .none j pos) (dC .non) := je_of pe_non fun _ => rfl
theorem je_str {x j pos} : JE X E (.Constant (.str x) j pos) (dC (.str x)) := je_of pe_str fun _ => rfl
/-- an operation on values, lifted -/
abbrev DO := D → D → MM → (D → MM → Prop) → Prop
def OpL (K : PySem.W.Frag) (r : R2) (o : DO) : Prop := ∀ w m H x y u v Q Φ, HRep K w m H → Rep K w x u → Rep K w y v → VLift K w Q Φ → o x y m Φ → r u v H Q
def dOp (o : DO) (a b : DE) : DE := fun ρ m Φ Ψ => a ρ m (fun x m1 => b ρ m1 (fun y m2 => o x y m2 Φ) Ψ) Ψ
theorem dOp_ok {r : R2} {o : DO} (hl : OpL X.K r o) {σ : L2.St} {H : Hp} {Q : VK} (h : lift X.K E (dOp o Wa Wb) σ H Q) : tOp r (lift X.K E Wa) (lift X.K E Wb) σ H Q := by
  obtain ⟨w, ρ, m, Ψ, Φ, a, vl, h⟩ := h
  refine ⟨w, ρ, m, Ψ, _, a, fun x m1 w1 H1 u l1 h1 r1 q1 => ?_, h⟩
  refine ⟨w1, ρ, m1, Ψ, _, a.to l1 h1, fun y m2 w2 H2 v l2 h2 r2 q2 => ?_, q1⟩
  exact hl w2 m2 H2 x y u v Q Φ h2 (Rep.mono l2 _ _ r1) r2 (vl.mono (l1.trans l2)) q2
theorem je_op {op : Operator} {r : R2} {o : DO} (ho : OpR X (binaryOp op) r) (hl : OpL X.K r o) (ha : JE X E a Wa) (hb : JE X E b Wb) : JE X E (.BinOp a op b pos) (dOp o Wa Wb) := PE.imp (pe_op ho ha hb) fun _ _ _ h => dOp_ok hl h
theorem je_cmp {op : CmpOp} {r : R2} {o : DO} (ho : OpR X (compareOp op) r) (hl : OpL X.K r o) (ha : JE X E a Wa) (hb : JE X E b Wb) (hm : behindInMarks op b = false) : JE X E (.Compare a [op] [b] pos) (dOp o Wa Wb) := PE.imp (pe_cmpR ho ha hb hm) fun _ _ _ h => dOp_ok hl h
/-- a value that is True or False, as a test -/
def dB (W : DE) : DT := fun ρ m Φ Ψ => W ρ m (fun d m1 => match d with
  | .bl b => Φ b m1
  | _ => False) Ψ
theorem dB_ok {t : TE} {W : DE} (ht : ∀ σ H Q, lift X.K E W σ H Q → t σ H Q) {σ : L2.St} {H : Hp} {Q : Bool → Hp → Prop} (h : liftT X.K E (dB W) σ H Q) : tTest t σ H Q := by
  obtain ⟨w, ρ, m, Ψ, Φ, a, vl, h⟩ := h
  refine ht σ H _ ⟨w, ρ, m, Ψ, _, a, fun d m1 w1 H1 v l1 h1 r1 q1 => ?_, h⟩
  cases d with
  | bl b => exact ⟨b, r1, vl b m1 w1 H1 l1 h1 q1⟩
  | _ => exact False.elim q1
theorem jt_cmp {op : CmpOp} {r : R2} {o : DO} (ho : OpR X (compareOp op) r) (hl : OpL X.K r o) (ha : JE X E a Wa) (hb : JE X E b Wb) (hm : behindInMarks op b = false) : JT X E (.Compare a [op] [b] pos) (dB (dOp o Wa Wb)) :=
  PT.imp (pt_cmpR ho ha hb hm) fun _ _ _ h => dB_ok (fun _ _ _ h => dOp_ok hl h) h
theorem jt_val {e : Expr} {W : DE} (h : JE X E e W) (he : ∀ whole, isTrue e X.env whole = (do let v ← whole; standAt e.pos; holding [v] (truthy v)) := by intro _; rfl) : JT X E e (dB W) :=
  PT.imp (pt_val h he) fun _ _ _ h => dB_ok (t := lift X.K E W) (fun _ _ _ h => h) h
/-- a op1 b op2 c -/
def dChain (o o' : DO) (a b c : DE) : DE := fun ρ m Φ Ψ => a ρ m (fun x m1 => b ρ m1 (fun y m2 => o x y m2 (fun z m3 => match z with
  | .bl k => if k = true then c ρ m3 (fun u m4 => o' y u m4 Φ) Ψ else Φ (.bl false) m3
  | _ => False)) Ψ) Ψ
theorem dChain_ok {r r' : R2} {o o' : DO} (hl : OpL X.K r o) (hl' : OpL X.K r' o') {σ : L2.St} {H : Hp} {Q : VK} (h : lift X.K E (dChain o o' Wa Wb Wc) σ H Q) : tChain r r' (lift X.K E Wa) (lift X.K E Wb) (lift X.K E Wc) σ H Q := by
  obtain ⟨w, ρ, m, Ψ, Φ, a, vl, h⟩ := h
  refine ⟨w, ρ, m, Ψ, _, a, fun x m1 w1 H1 u l1 h1 r1 q1 => ?_, h⟩
  refine ⟨w1, ρ, m1, Ψ, _, a.to l1 h1, fun y m2 w2 H2 v l2 h2 r2 q2 => ?_, q1⟩
  refine hl w2 m2 H2 x y u v _ _ h2 (Rep.mono l2 _ _ r1) r2 (fun z m3 w3 H3 zv l3 h3 r3 q3 => ?_) q2
  cases z with
  | bl k =>
    refine ⟨k, r3, ?_⟩
    cases k with
    | true =>
      have q3 : Wc ρ m3 (fun u m4 => o' y u m4 Φ) Ψ := q3
      rw [if_pos rfl]
      have l13 := l1.trans (l2.trans l3)
      refine ⟨w3, ρ, m3, Ψ, _, a.to l13 h3, fun d m4 w4 H4 v4 l4 h4 r4 q4 => ?_, q3⟩
      exact hl' w4 m4 H4 y d v v4 Q Φ h4 (Rep.mono (l3.trans l4) _ _ r2) r4 (vl.mono (l13.trans l4)) q4
    | false =>
      have q3 : Φ (.bl false) m3 := q3
      rw [if_neg Bool.false_ne_true]
      exact vl (.bl false) _ w3 H3 _ (l1.trans (l2.trans l3)) h3 rfl q3
  | _ => exact False.elim q3
theorem je_chain {op op' : CmpOp} {r r' : R2} {o o' : DO} (ho : OpR X (compareOp op) r) (hl : OpL X.K r o) (ho' : OpR X (compareOp op') r') (hl' : OpL X.K r' o') (ha : JE X E a Wa) (hb : JE X E b Wb) (hc : JE X E c Wc)
    (hm : lastMarks [op, op'] [b, c] = false := by with_unfolding_all rfl) : JE X E (.Compare a [op, op'] [b, c] pos) (dChain o o' Wa Wb Wc) := PE.imp (pe_chain ho ho' ha hb hc hm) fun _ _ _ h => dChain_ok hl hl' h
/-- one-place operations -/
abbrev DO1 := D → MM → (D → MM → Prop) → Prop
def dUn (o : DO1) (a : DE) : DE := fun ρ m Φ Ψ => a ρ m (fun x m1 => o x m1 Φ) Ψ
/-! ### tests -/
variable {tA tB' : DT} {rest : List Expr}
def dAnd (t u : DT) : DT := fun ρ m Φ Ψ => t ρ m (fun c m1 => if c = true then u ρ m1 Φ Ψ else Φ false m1) Ψ
def dOr (t u : DT) : DT := fun ρ m Φ Ψ => t ρ m (fun c m1 => if c = true then Φ true m1 else u ρ m1 Φ Ψ) Ψ
def dNot (t : DT) : DT := fun ρ m Φ Ψ => t ρ m (fun c m1 => Φ (!c) m1) Ψ
theorem jw_and1 (ha : JT X E a tA) : JW X E (.BoolOp .And [a] pos) tA := pw_and1 ha
theorem jw_or1 (ha : JT X E a tA) : JW X E (.BoolOp .Or [a] pos) tA := pw_or1 ha
theorem jw_and (ha : JT X E a tA) (hb : JW X E (.BoolOp .And (b :: rest) pos) tB') : JW X E (.BoolOp .And (a :: b :: rest) pos) (dAnd tA tB') := PW.imp (pw_and ha hb) fun σ H Q ⟨w, ρ, m, Ψ, Φ, a, vl, h⟩ => by
  refine ⟨w, ρ, m, Ψ, _, a, fun c m1 w1 H1 l1 h1 q1 => ?_, h⟩
  cases c with
  | true => exact ⟨w1, ρ, m1, Ψ, Φ, a.to l1 h1, fun b m2 w2 H2 l2 h2 q2 => vl b m2 w2 H2 (l1.trans l2) h2 q2, q1⟩
  | false => exact vl false m1 w1 H1 l1 h1 q1
theorem jw_or (ha : JT X E a tA) (hb : JW X E (.BoolOp .Or (b :: rest) pos) tB') : JW X E (.BoolOp .Or (a :: b :: rest) pos) (dOr tA tB') := PW.imp (pw_or ha hb) fun σ H Q ⟨w, ρ, m, Ψ, Φ, a, vl, h⟩ => by
  refine ⟨w, ρ, m, Ψ, _, a, fun c m1 w1 H1 l1 h1 q1 => ?_, h⟩
  cases c with
  | false => exact ⟨w1, ρ, m1, Ψ, Φ, a.to l1 h1, fun b m2 w2 H2 l2 h2 q2 => vl b m2 w2 H2 (l1.trans l2) h2 q2, q1⟩
  | true => exact vl true m1 w1 H1 l1 h1 q1
theorem jt_not (ha : JT X E a tA) : JT X E (.UnaryOp .Not a pos) (dNot tA) := PT.imp (pt_not ha) fun σ H Q ⟨w, ρ, m, Ψ, Φ, a, vl, h⟩ =>
  ⟨w, ρ, m, Ψ, _, a, fun c m1 w1 H1 l1 h1 q1 => vl (!c) m1 w1 H1 l1 h1 q1, h⟩
/-- and, or, not as values of True and False -/
def dBlV (d : D) (f : Bool → Prop) : Prop := match d with
  | .bl b => f b
  | _ => False
def dAndV (a b : DE) : DE := fun ρ m Φ Ψ => a ρ m (fun x m1 => dBlV x fun c => if c = true then b ρ m1 Φ Ψ else Φ (.bl false) m1) Ψ
def dOrV (a b : DE) : DE := fun ρ m Φ Ψ => a ρ m (fun x m1 => dBlV x fun c => if c = true then Φ (.bl true) m1 else b ρ m1 Φ Ψ) Ψ
def dNotV (a : DE) : DE := fun ρ m Φ Ψ => a ρ m (fun x m1 => dBlV x fun c => Φ (.bl (!c)) m1) Ψ
theorem je_one {op} (h : JE X E a Wa) : JE X E (.BoolOp op [a] pos) Wa := pe_one h
theorem je_and (ha : JE X E a Wa) (hb : JE X E (.BoolOp .And (b :: rest) pos) Wb) : JE X E (.BoolOp .And (a :: b :: rest) pos) (dAndV Wa Wb) := PE.imp (pe_and ha hb) fun σ H Q ⟨w, ρ, m, Ψ, Φ, a, vl, h⟩ => by
  refine ⟨w, ρ, m, Ψ, _, a, fun c m1 w1 H1 v l1 h1 r1 q1 => ?_, h⟩
  cases c with
  | bl c =>
    refine ⟨c, r1, ?_⟩
    cases c with
    | true => exact ⟨w1, ρ, m1, Ψ, Φ, a.to l1 h1, vl.mono l1, q1⟩
    | false => exact vl (.bl false) m1 w1 H1 _ l1 h1 rfl q1
  | _ => exact False.elim q1
theorem je_or (ha : JE X E a Wa) (hb : JE X E (.BoolOp .Or (b :: rest) pos) Wb) : JE X E (.BoolOp .Or (a :: b :: rest) pos) (dOrV Wa Wb) := PE.imp (pe_or ha hb) fun σ H Q ⟨w, ρ, m, Ψ, Φ, a, vl, h⟩ => by
  refine ⟨w, ρ, m, Ψ, _, a, fun c m1 w1 H1 v l1 h1 r1 q1 => ?_, h⟩
  cases c with
  | bl c =>
    refine ⟨c, r1, ?_⟩
    cases c with
    | false => exact ⟨w1, ρ, m1, Ψ, Φ, a.to l1 h1, vl.mono l1, q1⟩
    | true => exact vl (.bl true) m1 w1 H1 _ l1 h1 rfl q1
  | _ => exact False.elim q1
def dIfE (t : DT) (a b : DE) : DE := fun ρ m Φ Ψ => t ρ m (fun c m1 => if c = true then a ρ m1 Φ Ψ else b ρ m1 Φ Ψ) Ψ
theorem je_ifExp {c : Expr} (hc : JT X E c tA) (ha : JE X E a Wa) (hb : JE X E b Wb) : JE X E (.IfExp c a b pos) (dIfE tA Wa Wb) := PE.imp (pe_ifExp hc ha hb) fun σ H Q ⟨w, ρ, m, Ψ, Φ, a, vl, h⟩ => by
  refine ⟨w, ρ, m, Ψ, _, a, fun c m1 w1 H1 l1 h1 q1 => ?_, h⟩
  cases c with
  | true => exact ⟨w1, ρ, m1, Ψ, Φ, a.to l1 h1, vl.mono l1, q1⟩
  | false => exact ⟨w1, ρ, m1, Ψ, Φ, a.to l1 h1, vl.mono l1, q1⟩

/-! ### argument lists, displays -/
variable {es : List Expr} {Ws : DA}
def dNil : DA := fun _ m Φ _ => Φ [] m
def dCons (a : DE) (r : DA) : DA := fun ρ m Φ Ψ => a ρ m (fun x m1 => r ρ m1 (fun xs m2 => Φ (x :: xs) m2) Ψ) Ψ
theorem ja_nil : JA X E [] dNil := PA.imp pa_nil fun σ H Q ⟨w, ρ, m, Ψ, Φ, a, vl, h⟩ => vl [] m w H [] (.refl w) a.h rfl h
theorem ja_cons (ha : JE X E a Wa) (hr : JA X E es Ws) (hs : starEach (a :: es) X.env = (false, eval a X.env) :: starEach es X.env := by rfl) : JA X E (a :: es) (dCons Wa Ws) := PA.imp (pa_cons ha hr hs) fun σ H Q ⟨w, ρ, m, Ψ, Φ, a, vl, h⟩ => by
  refine ⟨w, ρ, m, Ψ, _, a, fun x m1 w1 H1 v l1 h1 r1 q1 => ?_, h⟩
  exact ⟨w1, ρ, m1, Ψ, _, a.to l1 h1, fun ds m2 w2 H2 vs l2 h2 r2 q2 => vl (x :: ds) m2 w2 H2 _ (l1.trans l2) h2 ⟨v, vs, rfl, Rep.mono l2 _ _ r1, r2⟩ q2, q1⟩
abbrev LIM : Nat := 16777216
theorem lim_sz {n : Nat} (h : n ≤ LIM) : n ≤ sizeLine := by rw [sizeLine_eq]; exact h
theorem lim_lt {n : Nat} (h : n < LIM) : n < sizeLine := by rw [sizeLine_eq]; exact h
def dLst (r : DA) : DE := fun ρ m Φ Ψ => r ρ m (fun ds m1 => ds.length ≤ LIM ∧ Φ (.lst ds) m1) Ψ
def dTup (r : DA) : DE := fun ρ m Φ Ψ => r ρ m (fun ds m1 => ds.length ≤ LIM ∧ Φ (.tup ds) m1) Ψ
def dLstM (r : DA) : DE := fun ρ m Φ Ψ => r ρ m (fun ds m1 => ds.length ≤ LIM ∧ Φ (.hnd m1.M.length) (m1.push (.lst ds))) Ψ
theorem je_lst (h : JA X E es Ws) : JE X E (.List es pos) (dLst Ws) := PE.imp (pe_lst h) fun σ H Q ⟨w, ρ, m, Ψ, Φ, a, vl, h⟩ =>
  ⟨w, ρ, m, Ψ, _, a, fun ds m1 w1 H1 vs l1 h1 r1 ⟨z, q1⟩ => ⟨lim_sz (by rw [r1.length]; exact z), fun p hp => vl _ m1 _ _ _ (l1.trans (Wd.le_put (h1.nof hp))) (h1.put hp) (rep_put_lst h1 hp r1) q1⟩, h⟩
theorem je_tup {x1} (h : JA X E es Ws) : JE X E (.Tuple es x1 pos) (dTup Ws) := PE.imp (pe_tup h) fun σ H Q ⟨w, ρ, m, Ψ, Φ, a, vl, h⟩ =>
  ⟨w, ρ, m, Ψ, _, a, fun ds m1 w1 H1 vs l1 h1 r1 ⟨z, q1⟩ => ⟨lim_sz (by rw [r1.length]; exact z), fun p hp => vl _ m1 _ _ _ (l1.trans (Wd.le_put (h1.nof hp))) (h1.put hp) (rep_put_tup h1 hp r1) q1⟩, h⟩
theorem je_lstM (h : JA X E es Ws) : JE X E (.List es pos) (dLstM Ws) := PE.imp (pe_lst h) fun σ H Q ⟨w, ρ, m, Ψ, Φ, a, vl, h⟩ =>
  ⟨w, ρ, m, Ψ, _, a, fun ds m1 w1 H1 vs l1 h1 r1 ⟨z, q1⟩ => ⟨lim_sz (by rw [r1.length]; exact z), fun p hp => vl _ _ _ _ _ (l1.trans Wd.le_add) (h1.add (o := .lst ds) hp ⟨vs, upd_same, RepAll.mono Wd.le_add _ _ r1⟩) (rep_add h1) q1⟩, h⟩

/-! ### calls -/
/-- what a def is worth: arguments, store, wanted end, wanted exception -/
abbrev DC := List D → MM → (D → MM → Prop) → XP → Prop
def spOf (K : PySem.W.Frag) (n : Nat) (C : DC) : Sp := fun vs H Q E => vs.length = n ∧ ∃ w ds m Φ Ψ, HRep K w m H ∧ RepAll K w ds vs ∧ VLift K w Q Φ ∧ XLift K w (fun cls d _ H => E cls d H) [] Ψ ∧ C ds m Φ Ψ
def dCall (n : Nat) (C : DC) (r : DA) : DE := fun ρ m Φ Ψ => r ρ m (fun ds m1 => ds.length = n ∧ C ds m1 Φ Ψ) Ψ
variable {k n : Nat} {f : Addr} {fd : FuncData} {ps : List Str} {C : DC} {x : Str} {p : Pos}
theorem call_ok {w : Wd} {ρ : Env} {m : MM} {Ψ : XP} {Φ : D → MM → Prop} {σ : L2.St} {H : Hp} {Q : VK} {ds : List D} {vs : List V} (a : At X.K E w σ H ρ m Ψ) (vl : VLift X.K w Q Φ) (r : RepAll X.K w ds vs) (hn : ds.length = n) (c : C ds m Φ Ψ) :
    spOf X.K n C (vs ++ []) H Q (WE E σ) := by
  rw [List.append_nil]
  exact ⟨r.length.trans hn, w, ds, m, Φ, Ψ, a.h, r, vl, fun C fs m' w' H' d xs l h b c q => a.x C fs m' w' H' d xs l h b c q, c⟩
theorem je_call {e : Expr} (tk : Takes X E) (F : FnOk X.prog X.w X.K X.mg X.base (L2.CX X.prog X.w) k f fd ps (spOf X.K n C)) (hr : Room k X.A) (hg : Gl X x) (hm : X.mg x = some (.ref f)) (hk : PySem.W.keepIn X.K (.ref f) = true) (hb : Binds X.K fd ps [])
    (ha : JA X E (e :: es) Ws) (hdb : (x == ("__debug__" : Str)) = false := by decide) (he : starEach (e :: es) X.env = (false, eval e X.env) :: starEach es X.env := by rfl) (hpl : (backTo pos (starEach es X.env)).any (·.1) = false := by rfl) :
    JE X E (.Call (.Name x p) (e :: es) [] pos) (dCall n C Ws) := PE.imp (pe_callS F hr hg hm hk hb (fun σ => passAt tk σ) ha hdb he hpl) fun σ H Q ⟨w, ρ, m, Ψ, Φ, a, vl, h⟩ =>
  ⟨w, ρ, m, Ψ, _, a, fun ds m1 w1 H1 vs l1 h1 r1 ⟨hn, q1⟩ => by
    have z := call_ok (C := C) (a.to l1 h1) (vl.mono l1) r1 hn q1
    rw [List.append_nil] at z
    exact z, h⟩
end
end Dl

namespace Dl
open PySem L2 PyProof.Rows

/-! ### statements -/
def dNext : DS := fun N _ ρ m => N.nx ρ m
def dSeq (t u : DS) : DS := fun N Ψ ρ m => t { N with nx := u N Ψ } Ψ ρ m
def dBreak : DS := fun N _ ρ m => N.bk ρ m
def dDrop (e : DE) : DS := fun N Ψ ρ m => e ρ m (fun _ m1 => N.nx ρ m1) (Ψ ρ)
def dRet (e : DE) : DS := fun N Ψ ρ m => e ρ m N.rt (Ψ ρ)
def dRetN : DS := fun N _ _ m => N.rt .non m
def dIf (c : DT) (t u : DS) : DS := fun N Ψ ρ m => c ρ m (fun b m1 => if b = true then t N Ψ ρ m1 else u N Ψ ρ m1) (Ψ ρ)
def dSet (i : Nat) (e : DE) : DS := fun N Ψ ρ m => e ρ m (fun d m1 => N.nx (ρ.set i (some d)) m1) (Ψ ρ)
/-- targets -/
abbrev DG := D → Env → MM → (Env → MM → Prop) → Prop
def dgName (i : Nat) : DG := fun d ρ m k => k (ρ.set i (some d)) m
def bindD : List Nat → List D → Env → Env
  | i :: is, d :: ds, ρ => bindD is ds (ρ.set i (some d))
  | _, _, ρ => ρ
def asT : D → Option (List D)
  | .tup ds => some ds
  | .rot ds => some ds
  | _ => none
def dgTup (is : List Nat) : DG := fun d ρ m k => match asT d with
  | some ds => ds.length = is.length ∧ k (bindD is ds ρ) m
  | none => False
def dAsg (e : DE) (g : DG) : DS := fun N Ψ ρ m => e ρ m (fun d m1 => g d ρ m1 N.nx) (Ψ ρ)
def dAug (i : Nat) (o : DO) (e : DE) : DS := fun N Ψ ρ m => match ρ[i]? with
  | some (some x) => e ρ m (fun y m1 => o x y m1 (fun z m2 => N.nx (ρ.set i (some z)) m2)) (Ψ ρ)
  | _ => False
/-- iteration -/
abbrev DI := Env → MM → (List D → MM → Prop) → XP → Prop
def forW (g : DG) (body : DS) (N : DN) (Ψ : XS) : List D → Env → MM → Prop
  | [], ρ, m => N.nx ρ m
  | d :: ds, ρ, m => g d ρ m fun ρ1 m1 => body { N with nx := forW g body N Ψ ds, ct := forW g body N Ψ ds, bk := N.nx } Ψ ρ1 m1
def dFor (it : DI) (g : DG) (body : DS) : DS := fun N Ψ ρ m => it ρ m (fun ds m1 => forW g body N Ψ ds ρ m1) (Ψ ρ)
def dWhile (c : DT) (body : DS) : DS := fun N Ψ ρ m => ∃ W : Nat → Env → MM → Prop, (∃ n, W n ρ m) ∧ ∀ n ρ m, W n ρ m →
  c ρ m (fun b m1 => if b = true then body { N with nx := fun ρ' m' => ∃ n', n' < n ∧ W n' ρ' m', ct := fun ρ' m' => ∃ n', n' < n ∧ W n' ρ' m', bk := N.nx } Ψ ρ m1 else N.nx ρ m1) (Ψ ρ)

section
variable {X : Cx} {E : WX} {a b c : Expr} {Wa Wb Wc : DE} {pos : Pos} {st : Stmt} {rest body : List Stmt} {t u : DS} {tc : DT}
theorem NLift.with {K : PySem.W.Frag} {w : Wd} {D : Ends} {N : DN} (h : NLift K w D N) {q : L2.St → Hp → Prop} {f : Env → MM → Prop} (s : SLift K w q f) : NLift K w { D with nx := q } { N with nx := f } := ⟨s, h.rt, h.bk, h.ct⟩
theorem jss_nil : JSs X E [] dNext := PSs.imp pss_nil fun D σ H ⟨w, ρ, m, Ψ, N, a, n, h⟩ => n.nx ρ m w H σ (.refl w) a.h a.s h
theorem jss_cons (h1 : JS X E st t) (h2 : JSs X E rest u) : JSs X E (st :: rest) (dSeq t u) := PSs.imp (pss_cons h1 h2) fun D σ H ⟨w, ρ, m, Ψ, N, a, n, h⟩ =>
  ⟨w, ρ, m, Ψ, { N with nx := u N Ψ }, a, n.with fun ρ' m' w' H' σ' l h' s' q => ⟨w', ρ', m', Ψ, N, ⟨h', s', a.x.mono l⟩, n.mono l, q⟩, h⟩
theorem jss_one (h1 : JS X E st t) : JSs X E [st] t := pss_one h1
theorem js_break : JS X E (.Break pos) dBreak := PS.imp ps_break fun D σ H ⟨w, ρ, m, Ψ, N, a, n, h⟩ => n.bk ρ m w H σ (.refl w) a.h a.s h
theorem js_expr (he : JE X E a Wa) (hs : swapsWith a none pos.line X.env = pure false := by rfl) : JS X E (.Expr a pos) (dDrop Wa) := PS.imp (ps_expr he hs) fun D σ H ⟨w, ρ, m, Ψ, N, a, n, h⟩ =>
  ⟨w, ρ, m, Ψ ρ, _, a.at, fun d m1 w1 H1 v l1 h1 r1 q1 => n.nx ρ m1 w1 H1 σ l1 h1 (a.s.mono l1) q1, h⟩
theorem js_ret (he : JE X E a Wa) : JS X E (.Return (some a) pos) (dRet Wa) := PS.imp (ps_ret he) fun D σ H ⟨w, ρ, m, Ψ, N, a, n, h⟩ => ⟨w, ρ, m, Ψ ρ, _, a.at, n.rt, h⟩
theorem js_if {A B : List Stmt} (hc : JT X E c tc) (ha : JSs X E A t) (hb : JSs X E B u) : JS X E (.If c A B pos) (dIf tc t u) := PS.imp (ps_if hc ha hb) fun D σ H ⟨w, ρ, m, Ψ, N, a, n, h⟩ => by
  refine ⟨w, ρ, m, Ψ ρ, _, a.at, fun b m1 w1 H1 l1 h1 q1 => ?_, h⟩
  cases b with
  | true => exact ⟨w1, ρ, m1, Ψ, N, a.to l1 h1, n.mono l1, q1⟩
  | false => exact ⟨w1, ρ, m1, Ψ, N, a.to l1 h1, n.mono l1, q1⟩
theorem js_set (i : Nat) {x : Str} {pos' : Pos} (hN : X.N.Nodup) (hi : X.N[i]? = some x) (hx : Loc X.env.scope x) (he : JE X E a Wa) (hs : swapsWith a (some (.Name x pos')) pos.line X.env = pure false := by rfl)
    (hf : X.fn x = true ∨ X.env.scope.names.lookup x = some .local := by first | exact .inl rfl | exact .inr rfl | assumption) : JS X E (.Assign [.Name x pos'] a pos) (dSet i Wa) := PS.imp (ps_set hN hi hx he hs hf) fun D σ H ⟨w, ρ, m, Ψ, N, a, n, h⟩ =>
  ⟨w, ρ, m, Ψ ρ, _, a.at, fun d m1 w1 H1 v l1 h1 r1 q1 => n.nx _ m1 w1 H1 _ l1 h1 ((a.s.mono l1).set i r1) q1, h⟩

/-! targets -/
def liftG (K : PySem.W.Frag) (js : List Nat) (G : DG) : TG := fun v σ H Q => ∃ w ρ m d k, HRep K w m H ∧ Slots K w σ ρ ∧ Rep K w d v ∧ (∀ ρ' m' w' H' σ', w.le w' → HRep K w' m' H' → Slots K w' σ' ρ' → wipe σ' js = wipe σ js → k ρ' m' → Q σ' H') ∧ G d ρ m k
theorem PG.imp {e : Expr} {t t' : TG} (h : PG X e t) (i : ∀ v σ H Q, t' v σ H Q → t v σ H Q) : PG X e t' := ⟨fun pins s σ H x v Q I r q => h.run pins s σ H x v Q I r (i x σ H Q q)⟩
theorem wipe_get {σ : L2.St} {js : List Nat} {i : Nat} : (wipe σ js)[i]? = if i ∈ js ∧ i < σ.length then some none else σ[i]? := by
  induction js with
  | nil => simp [wipe]
  | cons j js ih =>
    show ((wipe σ js).set j none)[i]? = _
    by_cases h : j = i
    · subst h
      by_cases hl : j < σ.length
      · rw [List.getElem?_set_self (by rw [wipe_length]; exact hl), if_pos ⟨List.mem_cons_self, hl⟩]
      · rw [List.getElem?_eq_none (by rw [List.length_set, wipe_length]; omega), if_neg (fun z => hl z.2), List.getElem?_eq_none (by omega)]
    · rw [List.getElem?_set_ne h, ih]
      have e : (i ∈ j :: js ∧ i < σ.length) ↔ (i ∈ js ∧ i < σ.length) := by
        constructor
        · rintro ⟨z, q⟩
          rcases List.mem_cons.mp z with z | z
          · exact absurd z.symm h
          · exact ⟨z, q⟩
        · rintro ⟨z, q⟩; exact ⟨List.mem_cons_of_mem _ z, q⟩
      by_cases q : i ∈ js ∧ i < σ.length
      · rw [if_pos q, if_pos (e.mpr q)]
      · rw [if_neg q, if_neg (fun z => q (e.mp z))]
theorem wipe_set {σ : L2.St} {js : List Nat} {i : Nat} {v : Option V} (h : i ∈ js) : wipe (σ.set i v) js = wipe σ js := by
  apply List.ext_getElem?
  intro j
  rw [wipe_get, wipe_get, List.length_set]
  by_cases q : j ∈ js ∧ j < σ.length
  · rw [if_pos q, if_pos q]
  · rw [if_neg q, if_neg q]
    by_cases e : i = j
    · subst e
      have hl : ¬ i < σ.length := fun z => q ⟨h, z⟩
      rw [List.getElem?_eq_none (by rw [List.length_set]; omega), List.getElem?_eq_none (by omega)]
    · rw [List.getElem?_set_ne e]
theorem wipe_wipe {σ : L2.St} {js : List Nat} : wipe (wipe σ js) js = wipe σ js := by
  apply List.ext_getElem?
  intro j
  rw [wipe_get, wipe_get, wipe_length]
  by_cases q : j ∈ js ∧ j < σ.length
  · simp [q]
  · simp [q]
theorem jg_name (i : Nat) {x : Str} {pos : Pos} {js : List Nat} (hj : i ∈ js) (hN : X.N.Nodup) (hi : X.N[i]? = some x) (hx : Loc X.env.scope x) (hf : X.fn x = true ∨ X.env.scope.names.lookup x = some .local := by first | exact .inl rfl | exact .inr rfl | assumption) :
    PG X (.Name x pos) (liftG X.K js (dgName i)) := PG.imp (pg_name hN hi hx hf) fun v σ H Q ⟨w, ρ, m, d, k, h, s, r, n, q⟩ => n _ m w H _ (.refl w) h (s.set i r) (wipe_set hj) q
def gNames : List Nat → TGs
  | [] => gNil
  | i :: is => gCons (gName i) (gNames is)
theorem gNames_ok {K : PySem.W.Frag} {w : Wd} {H : Hp} {js : List Nat} : ∀ (is : List Nat), (∀ i ∈ is, i ∈ js) → ∀ (ds : List D) (vs : List V) (σ : L2.St) (ρ : Env) (Q : L2.St → Hp → Prop), ds.length = is.length → RepAll K w ds vs → Slots K w σ ρ →
    (∀ σ', Slots K w σ' (bindD is ds ρ) → wipe σ' js = wipe σ js → Q σ' H) → gNames is vs σ H Q
  | [], _, [], vs, σ, ρ, Q, _, r, s, q => by
    have e : vs = [] := r
    subst e
    exact ⟨rfl, q σ s rfl⟩
  | i :: is, hj, d :: ds, vs, σ, ρ, Q, hl, r, s, q => by
    obtain ⟨v, r', rfl, rv, rr⟩ := r
    refine ⟨v, r', rfl, ?_⟩
    refine gNames_ok is (fun j h => hj j (List.mem_cons_of_mem _ h)) ds r' _ (ρ.set i (some d)) Q (by simpa using hl) rr (s.set i rv) fun σ' s' e => q σ' s' (e.trans (wipe_set (hj i List.mem_cons_self)))
theorem asT_ok {K : PySem.W.Frag} {w : Wd} {m : MM} {H : Hp} {d : D} {ds : List D} {v : V} (h : HRep K w m H) (e : asT d = some ds) (r : Rep K w d v) : ∃ a xs, v = .ref a ∧ SqT K H a xs ∧ RepAll K w ds xs := by
  cases d with
  | tup es => cases e; obtain ⟨a, xs, e, q, r⟩ := r; exact ⟨a, xs, e, .inl (.inl (h.ext _ _ q)), r⟩
  | rot es => cases e; obtain ⟨a, xs, e, q, r⟩ := r; exact ⟨a, xs, e, sqt_mono h.ext q, r⟩
  | _ => cases e
theorem jg_tup {es : List Expr} {k : Nat} (is : List Nat) {js : List Nat} {pos : Pos} (hc : X.calm = true) (hj : ∀ i ∈ is, i ∈ js) (h : PGs X es (gNames is)) (hn : (assignEach es X.env).length = is.length := by rfl)
    (hst : (assignEach es X.env).findIdx? (·.1) = none := by rfl) : PG X (.Tuple es k pos) (liftG X.K js (dgTup is)) := PG.imp (pg_tup hc h hn hst) fun v σ H Q ⟨w, ρ, m, d, k, h, s, r, n, q⟩ => by
  unfold dgTup at q
  split at q
  · rename_i ds e
    obtain ⟨a, xs, rfl, hq, rr⟩ := asT_ok h e r
    exact ⟨a, xs, rfl, hq, rr.length.trans q.1, gNames_ok is hj ds xs σ ρ _ q.1 rr s fun σ' s' e => n _ m w H σ' (.refl w) h s' e q.2⟩
  · exact q.elim
theorem js_aug (i : Nat) {x : Str} {op : Operator} {r : R2} {o : DO} {pos' : Pos} (hN : X.N.Nodup) (hi : X.N[i]? = some x) (hx : Loc X.env.scope x) (he : JE X E a Wa) (ho : OpR X (inplaceOp op) r) (hl : OpL X.K r o)
    (hf : X.fn x = true ∨ X.env.scope.names.lookup x = some .local := by first | exact .inl rfl | exact .inr rfl | assumption) : JS X E (.AugAssign (.Name x pos') op a pos) (dAug i o Wa) :=
  PS.imp (ps_aug hN hi hx he (fun pins s σ H x y v u Q I rx ry q => ho pins s σ H x y v u Q I rx ry q) hf) fun D σ H ⟨w, ρ, m, Ψ, N, a, n, h⟩ => by
  unfold dAug at h
  split at h
  · rename_i d e
    obtain ⟨v, e1, r1⟩ := a.s.2 i d e
    refine ⟨v, e1, w, ρ, m, Ψ ρ, _, a.at, fun y m1 w1 H1 u l1 h1 r2 q1 => ?_, h⟩
    exact hl w1 m1 H1 d y v u _ _ h1 (Rep.mono l1 _ _ r1) r2 (fun z m2 w2 H2 zv l2 h2 r3 q2 => n.nx _ m2 w2 H2 _ (l1.trans l2) h2 ((a.s.mono (l1.trans l2)).set i r3) q2) q1
  · exact h.elim

/-! ### loops -/
theorem js_while {c : Expr} (hp : PassesOwn (model X.prog X.w) X.A X.env X.xe) (hc : JT X E c tc) (hb : JSs X E body t) : JS X E (.While c body [] pos) (dWhile tc t) := PS.imp (ps_while hp hc hb) fun D σ H ⟨w, ρ, m, Ψ, N, a, n, h⟩ => by
  obtain ⟨W, ⟨n0, w0⟩, hw⟩ := h
  refine ⟨fun k σ H => ∃ w' ρ m, w.le w' ∧ AtS X.K E w' σ H ρ m Ψ ∧ W k ρ m, ⟨n0, w, ρ, m, .refl w, a, w0⟩, ?_⟩
  rintro k σ1 H1 ⟨w1, ρ1, m1, l1, a1, q1⟩
  refine ⟨w1, ρ1, m1, Ψ ρ1, _, a1.at, fun b m2 w2 H2 l2 h2 q2 => ?_, hw k ρ1 m1 q1⟩
  have a2 := a1.to l2 h2
  cases b with
  | true =>
    show (if true = true then _ else _)
    rw [if_pos rfl]
    refine ⟨fun σ' H' => ∃ k', k' < k ∧ ∃ w' ρ m, w.le w' ∧ AtS X.K E w' σ' H' ρ m Ψ ∧ W k' ρ m, fun σ' H' z => z, w2, ρ1, m2, Ψ, _, a2, ?_, q2⟩
    have n2 := n.mono (l1.trans l2)
    have go : SLift X.K w2 (fun σ' H' => ∃ k', k' < k ∧ ∃ w' ρ m, w.le w' ∧ AtS X.K E w' σ' H' ρ m Ψ ∧ W k' ρ m) (fun ρ' m' => ∃ n', n' < k ∧ W n' ρ' m') := fun ρ' m' w' H' σ' l h' s' ⟨k', lt, q⟩ =>
      ⟨k', lt, w', ρ', m', (l1.trans l2).trans l, ⟨h', s', a2.x.mono l⟩, q⟩
    exact ⟨go, n2.rt, n2.nx, go⟩
  | false =>
    show (if false = true then _ else _)
    rw [if_neg Bool.false_ne_true]
    exact n.nx ρ1 m2 w2 H2 σ1 (l1.trans l2) h2 a2.s q2

/-- an iterator gives just these -/
structure Wlk (K : PySem.W.Frag) (w0 : Wd) (J : It) (ds : List D) : Prop where
  go : ∀ w m H (i : Nat) d, w0.le w → HRep K w m H → ds[i]? = some d → J.go i H
  stop : ∀ w m H, w0.le w → HRep K w m H → J.stop ds.length H
  yld : ∀ w m H (i : Nat) d x H', w0.le w → HRep K w m H → ds[i]? = some d → J.yld i H x H' → ∃ w', w.le w' ∧ HRep K w' m H' ∧ Rep K w' d x
def liftI (K : PySem.W.Frag) (E : WX) (W : DI) : TI := fun σ H R => ∃ w ρ m Ψ Φ, At K E w σ H ρ m Ψ ∧ (∀ ds m' w' H' J, w.le w' → HRep K w' m' H' → Wlk K w' J ds → Φ ds m' → R J H') ∧ W ρ m Φ Ψ
abbrev JI (X : Cx) (E : WX) (tg it : Expr) (W : DI) : Prop := PI X tg it (liftI X.K E W)
theorem PI.imp {tg e : Expr} {t t' : TI} (h : PI X tg e t) (i : ∀ σ H R, t' σ H R → t σ H R) : PI X tg e t' := ⟨fun pins s σ H R I q => h.run pins s σ H R I (i σ H R q)⟩
theorem js_for {tg iter : Expr} {wi : DI} {g : DG} {js : List Nat} (hp : PassesOwn (model X.prog X.w) X.A X.env X.xe) (hc : X.calm = true) (hi : JI X E tg iter wi) (hg : PG X tg (liftG X.K js g)) (hb : JSs X E body t)
    (hs : ∀ x, foldedSetIterable iter X.env x = pure x := by intro _; rfl) : JS X E (.For tg iter body [] pos) (dFor wi g t) := PS.imp (ps_for hp hc hi hg hb hs) fun D σ H ⟨w, ρ, m, Ψ, N, a, n, h⟩ => by
  refine ⟨w, ρ, m, Ψ ρ, _, a.at, fun ds m1 w1 H1 J l1 h1 wk q1 => ?_, h⟩
  refine ⟨fun i k σ H => k = ds.length - i ∧ i ≤ ds.length ∧ ∃ w' ρ m, w1.le w' ∧ AtS X.K E w' σ H ρ m Ψ ∧ forW g t N Ψ (ds.drop i) ρ m, ⟨ds.length, by omega, Nat.zero_le _, w1, ρ, m1, .refl w1, a.to l1 h1, q1⟩, ?_⟩
  rintro i k σ2 H2 ⟨rfl, hi, w2, ρ2, m2, l2, a2, q2⟩
  by_cases hlt : i < ds.length
  · have ed : ds[i]? = some ds[i] := List.getElem?_eq_getElem hlt
    have dr : ds.drop i = ds[i] :: ds.drop (i + 1) := List.drop_eq_getElem_cons hlt
    rw [dr] at q2
    refine .inr ⟨wk.go w2 m2 H2 i _ l2 a2.h ed, fun σ' H' => ∃ w' ρ m, w1.le w' ∧ AtS X.K E w' σ' H' ρ m Ψ ∧ forW g t N Ψ (ds.drop (i + 1)) ρ m, fun σ' H' z => ⟨ds.length - (i + 1), by omega, rfl, hlt, z⟩, fun x H3 y => ?_⟩
    obtain ⟨w3, l3, h3, r3⟩ := wk.yld w2 m2 H2 i _ x H3 l2 a2.h ed y
    refine ⟨w3, ρ2, m2, ds[i], _, h3, a2.s.mono l3, r3, fun ρ' m' w' H' σ' l h' s' _ q => ?_, q2⟩
    have l4 := l2.trans (l3.trans l)
    refine ⟨w', ρ', m', Ψ, _, ⟨h', s', a2.x.mono (l3.trans l)⟩, ?_, q⟩
    have n2 := n.mono (l1.trans l4)
    have go : SLift X.K w' (fun σ' H' => ∃ w' ρ m, w1.le w' ∧ AtS X.K E w' σ' H' ρ m Ψ ∧ forW g t N Ψ (ds.drop (i + 1)) ρ m) (forW g t N Ψ (ds.drop (i + 1))) := fun ρ5 m5 w5 H5 σ5 l5 h5 s5 q5 =>
      ⟨w5, ρ5, m5, l4.trans l5, ⟨h5, s5, a2.x.mono ((l3.trans l).trans l5)⟩, q5⟩
    exact ⟨go, n2.rt, n2.nx, go⟩
  · have e : i = ds.length := by omega
    subst e
    rw [List.drop_length] at q2
    exact .inl ⟨wk.stop w2 m2 H2 l2 a2.h, n.nx ρ2 m2 w2 H2 σ2 (l1.trans l2) a2.h a2.s q2⟩

/-! iterators -/
def moL : Option MO → Option (List D)
  | some (.lst ds) => some ds
  | _ => none
theorem moL_eq {o : Option MO} {ds : List D} (h : moL o = some ds) : o = some (.lst ds) := by
  cases o with
  | none => cases h
  | some o =>
    cases o with
    | lst es => cases h; rfl
    | _ => cases h
def asL (m : MM) : D → Option (List D)
  | .lst ds => some ds
  | .rol ds => some ds
  | .hnd k => moL m.M[k]?
  | _ => none
def asF : D → Option (List D)
  | .lst ds => some ds
  | .rol ds => some ds
  | _ => none
theorem asL_ok {K : PySem.W.Frag} {w : Wd} {m : MM} {H : Hp} {d : D} {ds : List D} {v : V} (h : HRep K w m H) (e : asL m d = some ds) (r : Rep K w d v) : ∃ a xs, v = .ref a ∧ SqL K H a xs ∧ RepAll K w ds xs := by
  cases d with
  | lst es => cases e; obtain ⟨a, xs, e, q, r⟩ := r; exact ⟨a, xs, e, .inl (.inl (h.ext _ _ q)), r⟩
  | rol es => cases e; obtain ⟨a, xs, e, q, r⟩ := r; exact ⟨a, xs, e, sql_mono h.ext q, r⟩
  | hnd k =>
    have q := moL_eq e
    obtain ⟨a, e, q2⟩ := r
    obtain ⟨xs, hx, rr⟩ := h.obj k a _ q2 q
    exact ⟨a, xs, e, .inl (.inl hx), rr⟩
  | _ => cases e
theorem asF_ok {K : PySem.W.Frag} {w : Wd} {d : D} {ds : List D} {v : V} (e : asF d = some ds) (r : Rep K w d v) : ∃ a xs, v = .ref a ∧ SqL K w.F a xs ∧ RepAll K w ds xs := by
  cases d with
  | lst es => cases e; obtain ⟨a, xs, e, q, r⟩ := r; exact ⟨a, xs, e, .inl (.inl q), r⟩
  | rol es => cases e; obtain ⟨a, xs, e, q, r⟩ := r; exact ⟨a, xs, e, q, r⟩
  | _ => cases e
def diList (e : DE) : DI := fun ρ m Φ Ψ => e ρ m (fun d m1 => match asF d with
  | some ds => Φ ds m1
  | none => False) Ψ
theorem wlk_list {K : PySem.W.Frag} {w : Wd} {a : Addr} {xs : List V} {ds : List D} (q : SqL K w.F a xs) (r : RepAll K w ds xs) : Wlk K w (Itl K a) ds where
  go := fun w1 m H i d l h e => by
    obtain ⟨v, e1, _⟩ := r.get e
    exact ⟨xs, v, sql_mono (fun a o z => h.ext a o (l.F a o z)) q, e1⟩
  stop := fun w1 m H l h => ⟨xs, sql_mono (fun a o z => h.ext a o (l.F a o z)) q, Nat.le_of_eq r.length⟩
  yld := fun w1 m H i d x H' l h e y => by
    obtain ⟨rfl, y⟩ := y
    obtain ⟨v, e1, rv⟩ := r.get e
    have z := y xs (sql_mono (fun a o z => h.ext a o (l.F a o z)) q)
    rw [e1] at z; cases z
    exact ⟨w1, .refl w1, h, Rep.mono l _ _ rv⟩
theorem ji_list {tg : Expr} (h : JE X E a Wa) : JI X E tg a (diList Wa) := PI.imp (pi_list h) fun σ H R ⟨w, ρ, m, Ψ, Φ, a, n, h⟩ => by
  refine ⟨w, ρ, m, Ψ, _, a, fun d m1 w1 H1 v l1 h1 r1 q1 => ?_, h⟩
  split at q1
  · rename_i ds e
    obtain ⟨a, xs, rfl, q, r⟩ := asF_ok e r1
    exact ⟨a, rfl, ⟨xs, sql_mono h1.ext q⟩, n ds m1 w1 H1 _ l1 h1 (wlk_list q r) q1⟩
  · exact q1.elim
def rngD (lo : Int) (n : Nat) : List D := (List.range n).map fun i => D.int (lo + (i : Nat))
theorem wlk_range {K : PySem.W.Frag} {w : Wd} {lo : Int} {n : Nat} : Wlk K w (Itr lo n) (rngD lo n) where
  go := fun w1 m H i d l h e => by
    have z := (List.getElem?_eq_some_iff.mp e).1
    show i < n
    simpa [rngD] using z
  stop := fun w1 m H l h => by show n ≤ (rngD lo n).length; simp [rngD]
  yld := fun w1 m H i d x H' l h e y => by
    obtain ⟨rfl, rfl⟩ := y
    have e' : d = D.int (lo + (i : Nat)) := by
      unfold rngD at e
      rw [List.getElem?_map] at e
      cases q : (List.range n)[i]? with
      | none => rw [q] at e; cases e
      | some j =>
        rw [q] at e
        have hj : j = i := by
          have := (List.getElem?_eq_some_iff.mp q).2
          simpa using this.symm
        subst hj
        exact (Option.some.inj e).symm
    subst e'
    exact ⟨w1, .refl w1, h, rfl⟩
def diRng1 (r : DA) : DI := fun ρ m Φ Ψ => r ρ m (fun ds m1 => match ds with
  | [.int j] => (-(2 ^ 62) ≤ j ∧ j < 2 ^ 62) ∧ Φ (rngD 0 j.toNat) m1
  | _ => False) Ψ
def diRng2 (r : DA) : DI := fun ρ m Φ Ψ => r ρ m (fun ds m1 => match ds with
  | [.int i, .int j] => (-(2 ^ 62) ≤ i ∧ i < 2 ^ 62 ∧ -(2 ^ 62) ≤ j ∧ j < 2 ^ 62) ∧ Φ (rngD i (j - i).toNat) m1
  | _ => False) Ψ
theorem rep1 {K : PySem.W.Frag} {w : Wd} {d : D} {vs : List V} (r : RepAll K w [d] vs) : ∃ v, vs = [v] ∧ Rep K w d v := by
  obtain ⟨v, r', rfl, a, b⟩ := r
  have e : r' = [] := b
  subst e; exact ⟨v, rfl, a⟩
theorem rep2 {K : PySem.W.Frag} {w : Wd} {d e : D} {vs : List V} (r : RepAll K w [d, e] vs) : ∃ v u, vs = [v, u] ∧ Rep K w d v ∧ Rep K w e u := by
  obtain ⟨v, r', rfl, a, b⟩ := r
  obtain ⟨u, rfl, c⟩ := rep1 b
  exact ⟨v, u, rfl, a, c⟩
theorem ji_range1 {tg : Expr} {Ws : DA} {p : Pos} (hg : Gl X "range") (hm : X.mg "range" = none) (ha : JA X E [a] Ws) (hs : starEach [a] X.env = [(false, eval a X.env)] := by rfl) : JI X E tg (.Call (.Name "range" p) [a] [] pos) (diRng1 Ws) :=
  PI.imp (pi_range1 hg hm ha hs) fun σ H R ⟨w, ρ, m, Ψ, Φ, a, n, h⟩ => by
  refine ⟨w, ρ, m, Ψ, _, a, fun ds m1 w1 H1 vs l1 h1 r1 q1 => ?_, h⟩
  split at q1
  · obtain ⟨v, rfl, rv⟩ := rep1 r1
    have e : v = .int _ := rv
    subst e
    exact ⟨_, rfl, q1.1.1, q1.1.2, n _ m1 w1 H1 _ l1 h1 wlk_range q1.2⟩
  · exact q1.elim
end
end Dl

namespace Dl
open PySem L2 PyProof.Rows

theorem VLift.int {K : PySem.W.Frag} {w : Wd} {m : MM} {H : Hp} {Q : VK} {Φ : D → MM → Prop} {i : Int} (vl : VLift K w Q Φ) (h : HRep K w m H) (q : Φ (.int i) m) : Q (.int i) H := vl (.int i) m w H _ (.refl w) h rfl q
theorem VLift.bl {K : PySem.W.Frag} {w : Wd} {m : MM} {H : Hp} {Q : VK} {Φ : D → MM → Prop} {i : Bool} (vl : VLift K w Q Φ) (h : HRep K w m H) (q : Φ (.bl i) m) : Q (.bl i) H := vl (.bl i) m w H _ (.refl w) h rfl q
theorem VLift.str {K : PySem.W.Frag} {w : Wd} {m : MM} {H : Hp} {Q : VK} {Φ : D → MM → Prop} {i : Str} (vl : VLift K w Q Φ) (h : HRep K w m H) (q : Φ (.str i) m) : Q (.str i) H := vl (.str i) m w H _ (.refl w) h rfl q
theorem VLift.non {K : PySem.W.Frag} {w : Wd} {m : MM} {H : Hp} {Q : VK} {Φ : D → MM → Prop} (vl : VLift K w Q Φ) (h : HRep K w m H) (q : Φ .non m) : Q .non H := vl .non m w H _ (.refl w) h rfl q
theorem VLift.newL {K : PySem.W.Frag} {w : Wd} {m : MM} {H : Hp} {Q : VK} {Φ : D → MM → Prop} {ds : List D} {xs : List V} {p : Addr} (vl : VLift K w Q Φ) (h : HRep K w m H) (hp : H p = none) (r : RepAll K w ds xs) (q : Φ (.lst ds) m) : Q (.ref p) (upd H p (.lst xs)) :=
  vl _ m _ _ _ (Wd.le_put (h.nof hp)) (h.put hp) (rep_put_lst h hp r) q
/-! ### operations -/
def oI (C : Int → Int → Prop) (g : Int → Int → Int) : DO := fun x y m Φ => match x, y with
  | .int i, .int j => C i j ∧ Φ (.int (g i j)) m
  | _, _ => False
def oI0 (g : Int → Int → Int) : DO := fun x y m Φ => match x, y with
  | .int i, .int j => Φ (.int (g i j)) m
  | _, _ => False
def oB0 (g : Int → Int → Bool) : DO := fun x y m Φ => match x, y with
  | .int i, .int j => Φ (.bl (g i j)) m
  | _, _ => False
theorem opl_I {K : PySem.W.Frag} {C C' : Int → Int → Prop} {g : Int → Int → Int} (hC : ∀ i j, C i j → C' i j) : OpL K (rI C' fun i j => .int (g i j)) (oI C g) := fun w m H x y u v Q Φ h r1 r2 vl q => by
  cases x with
  | int i =>
    cases y with
    | int j => exact ⟨i, j, r1, r2, hC _ _ q.1, vl.int h q.2⟩
    | _ => exact False.elim q
  | _ => exact False.elim q
theorem opl_I0 {K : PySem.W.Frag} {g : Int → Int → Int} : OpL K (rI0 fun i j => .int (g i j)) (oI0 g) := fun w m H x y u v Q Φ h r1 r2 vl q => by
  cases x with
  | int i =>
    cases y with
    | int j => exact ⟨i, j, r1, r2, vl.int h q⟩
    | _ => exact False.elim q
  | _ => exact False.elim q
theorem opl_B0 {K : PySem.W.Frag} {g : Int → Int → Bool} : OpL K (rI0 fun i j => .bl (g i j)) (oB0 g) := fun w m H x y u v Q Φ h r1 r2 vl q => by
  cases x with
  | int i =>
    cases y with
    | int j => exact ⟨i, j, r1, r2, vl.bl h q⟩
    | _ => exact False.elim q
  | _ => exact False.elim q
/-- a product: one factor below 2 ^ 64, or both below 2 ^ 400000 -/
def MulC (i j : Int) : Prop := (-(2 ^ 64) < i ∧ i < 2 ^ 64) ∨ (-(2 ^ 64) < j ∧ j < 2 ^ 64) ∨ CMulW i j
theorem op_mulC {X : Cx} : OpR X (binaryOp .Mult) (rI MulC fun i j => .int (i * j)) := fun pins s σ H x y v u Q I rx ry h => by
  obtain ⟨i, j, e1, e2, hc, q⟩ := h
  rcases hc with hc | hc | hc
  · exact op_mul pins s σ H x y v u Q I rx ry ⟨i, j, e1, e2, .inl hc, q⟩
  · exact op_mul pins s σ H x y v u Q I rx ry ⟨i, j, e1, e2, .inr hc, q⟩
  · exact op_mulW pins s σ H x y v u Q I rx ry ⟨i, j, e1, e2, hc, q⟩
def DivC (_ j : Int) : Prop := 0 < j ∧ j < 2 ^ 64
theorem divC_ok {i j : Int} (h : DivC i j) : CDivW i j := wide_div h.1 (b := 64) (by have := h.1; have := h.2; omega) (by decide) (by decide)
def ModC (_ j : Int) : Prop := 0 < j
/-- tracked lists -/
def asK (m : MM) : D → Option (List D)
  | .lst ds => some ds
  | .hnd k => moL m.M[k]?
  | _ => none
theorem asK_ok {K : PySem.W.Frag} {w : Wd} {m : MM} {H : Hp} {d : D} {ds : List D} {v : V} (h : HRep K w m H) (e : asK m d = some ds) (r : Rep K w d v) : ∃ a xs, v = .ref a ∧ H a = some (.lst xs) ∧ RepAll K w ds xs := by
  cases d with
  | lst es => cases e; obtain ⟨a, xs, e, q, r⟩ := r; exact ⟨a, xs, e, h.ext _ _ q, r⟩
  | hnd k =>
    have q := moL_eq e
    obtain ⟨a, e, q2⟩ := r
    obtain ⟨xs, hx, rr⟩ := h.obj k a _ q2 q
    exact ⟨a, xs, e, hx, rr⟩
  | _ => cases e
def rStrA : R2 := fun x y H Q => ∃ i j, x = .str i ∧ y = .str j ∧ i.length + j.length ≤ sizeLine ∧ Q (.str (i ++ j)) H
def rAddAll (K : PySem.W.Frag) : R2 := fun x y H Q => (rI0 fun i j => .int (i + j)) x y H Q ∨ rStrA x y H Q ∨ rCat x y H Q ∨ rCatT K x y H Q
theorem op_addAll {X : Cx} : OpR X (binaryOp .Add) (rAddAll X.K) := op_add.or (op_add_str.or (op_cat.or op_catT))
def oAdd : DO := fun x y m Φ => match x, y with
  | .int i, .int j => Φ (.int (i + j)) m
  | .str i, .str j => i.length + j.length ≤ LIM ∧ Φ (.str (i ++ j)) m
  | .tup xs, .tup ys => xs ≠ [] ∧ ys ≠ [] ∧ xs.length + ys.length ≤ LIM ∧ Φ (.tup (xs ++ ys)) m
  | .lst xs, .lst ys => xs.length + ys.length ≤ LIM ∧ Φ (.lst (xs ++ ys)) m
  | x, y => match asK m x, asK m y with
    | some xs, some ys => xs.length + ys.length ≤ LIM ∧ Φ (.lst (xs ++ ys)) m
    | _, _ => False
theorem cat_ok {K : PySem.W.Frag} {w : Wd} {m : MM} {H : Hp} {x y : D} {xs ys : List D} {u v : V} {Q : VK} {Φ : D → MM → Prop} (h : HRep K w m H) (e1 : asK m x = some xs) (e2 : asK m y = some ys) (r1 : Rep K w x u) (r2 : Rep K w y v) (vl : VLift K w Q Φ)
    (z : xs.length + ys.length ≤ LIM) (q : Φ (.lst (xs ++ ys)) m) : rCat u v H Q := by
  obtain ⟨a, us, rfl, ha, ra⟩ := asK_ok h e1 r1
  obtain ⟨b, vs, rfl, hb, rb⟩ := asK_ok h e2 r2
  refine ⟨a, b, us, vs, rfl, rfl, ha, hb, lim_sz (by rw [ra.length, rb.length]; exact z), fun p hp => ?_⟩
  exact vl _ m _ _ _ (Wd.le_put (h.nof hp)) (h.put hp) (rep_put_lst h hp (ra.append rb)) q
theorem opl_add {K : PySem.W.Frag} : OpL K (rAddAll K) oAdd := fun w m H x y u v Q Φ h r1 r2 vl q => by
  unfold oAdd at q
  split at q
  · exact .inl ⟨_, _, r1, r2, vl.int h q⟩
  · exact .inr (.inl ⟨_, _, r1, r2, lim_sz q.1, vl.str h q.2⟩)
  · obtain ⟨a, us, rfl, ha, ra⟩ := r1
    obtain ⟨b, vs, rfl, hb, rb⟩ := r2
    obtain ⟨q1, q2, q3, q4⟩ := q
    have n1 : us ≠ [] := fun z => by subst z; have := ra.length; exact q1 (List.length_eq_zero_iff.mp this.symm)
    have n2 : vs ≠ [] := fun z => by subst z; have := rb.length; exact q2 (List.length_eq_zero_iff.mp this.symm)
    refine .inr (.inr (.inr ⟨a, b, us, vs, rfl, rfl, .inl (.inl (h.ext _ _ ha)), .inl (.inl (h.ext _ _ hb)), n1, lim_sz (by rw [ra.length, rb.length]; exact q3), fun z => absurd z n2, fun _ p hp => ?_⟩))
    exact vl _ m _ _ _ (Wd.le_put (h.nof hp)) (h.put hp) (rep_put_tup h hp (ra.append rb)) q4
  · exact .inr (.inr (.inl (cat_ok h (x := .lst _) (y := .lst _) rfl rfl r1 r2 vl q.1 q.2)))
  · split at q
    · rename_i e1 e2
      exact .inr (.inr (.inl (cat_ok h e1 e2 r1 r2 vl q.1 q.2)))
    · exact q.elim

/-! equality -/
mutual
def toPy : D → PyData
  | .bl b => .bool b
  | .int i => .int i
  | .str x => .str x
  | .lst ds => .list (toPys ds)
  | .rol ds => .list (toPys ds)
  | .tup ds => .tuple (toPys ds)
  | .rot ds => .tuple (toPys ds)
  | _ => .none
def toPys : List D → List PyData
  | [] => []
  | d :: ds => toPy d :: toPys ds
end
mutual
def okE (n : Nat) : D → Bool
  | .non => true
  | .bl _ => true
  | .int _ => true
  | .str x => PyData.strOk x
  | .lst ds => decide (0 < n) && okEs (n - 1) ds
  | .rol ds => decide (0 < n) && okEs (n - 1) ds
  | .tup ds => decide (0 < n) && okEs (n - 1) ds
  | .rot ds => decide (0 < n) && okEs (n - 1) ds
  | _ => false
def okEs (n : Nat) : List D → Bool
  | [] => true
  | d :: ds => okE n d && okEs n ds
end

section
variable {K : PySem.W.Frag} {w : Wd} {m : MM} {H : Hp}
mutual
theorem dp_of (h : HRep K w m H) : ∀ (d : D) (v : V) (n : Nat), Rep K w d v → okE n d = true → Dp K H v (toPy d)
  | .non, _, _, r, _ => by cases (show _ = V.non from r); exact .non
  | .bl b, _, _, r, _ => by cases (show _ = V.bl b from r); exact .bl b
  | .int i, _, _, r, _ => by cases (show _ = V.int i from r); exact .int i
  | .str x, _, _, r, _ => by cases (show _ = V.str x from r); exact .str x
  | .lst ds, _, n, ⟨a, xs, e, q, r⟩, o => by
    subst e
    have o : (decide (0 < n) && okEs (n - 1) ds) = true := o
    rw [Bool.and_eq_true] at o
    exact .lst (.inl (.inl (h.ext _ _ q))) (dps_of h ds xs (n - 1) r o.2)
  | .rol ds, _, n, ⟨a, xs, e, q, r⟩, o => by
    subst e
    have o : (decide (0 < n) && okEs (n - 1) ds) = true := o
    rw [Bool.and_eq_true] at o
    exact .lst (sql_mono h.ext q) (dps_of h ds xs (n - 1) r o.2)
  | .tup ds, _, n, ⟨a, xs, e, q, r⟩, o => by
    subst e
    have o : (decide (0 < n) && okEs (n - 1) ds) = true := o
    rw [Bool.and_eq_true] at o
    exact .tup (.inl (.inl (h.ext _ _ q))) (dps_of h ds xs (n - 1) r o.2)
  | .rot ds, _, n, ⟨a, xs, e, q, r⟩, o => by
    subst e
    have o : (decide (0 < n) && okEs (n - 1) ds) = true := o
    rw [Bool.and_eq_true] at o
    exact .tup (sqt_mono h.ext q) (dps_of h ds xs (n - 1) r o.2)
  | .ty _, _, _, _, o => nomatch o
  | .cls _, _, _, _, o => nomatch o
  | .hnd _, _, _, _, o => nomatch o
  | .st _, _, _, _, o => nomatch o
  | .exc _ _ _ _, _, _, _, o => nomatch o
theorem dps_of (h : HRep K w m H) : ∀ (ds : List D) (vs : List V) (n : Nat), RepAll K w ds vs → okEs n ds = true → DpAll K H vs (toPys ds)
  | [], _, _, r, _ => by cases (show _ = [] from r); exact .nil
  | d :: ds, _, n, ⟨v, r', e, a, b⟩, o => by
    subst e
    have o : (okE n d && okEs n ds) = true := o
    rw [Bool.and_eq_true] at o
    exact .cons (dp_of h d v n a o.1) (dps_of h ds r' n b o.2)
end
mutual
theorem okE_lay : ∀ (d : D) (n : Nat), okE n d = true → (toPy d).canLay0 = true ∧ (toPy d).depth ≤ n
  | .non, _, _ => ⟨rfl, Nat.zero_le _⟩
  | .bl b, _, _ => ⟨rfl, Nat.zero_le _⟩
  | .int i, _, _ => ⟨rfl, Nat.zero_le _⟩
  | .str x, _, o => ⟨o, Nat.zero_le _⟩
  | .lst ds, n, o => by
    have o : (decide (0 < n) && okEs (n - 1) ds) = true := o
    rw [Bool.and_eq_true] at o
    obtain ⟨h1, h2⟩ := okEs_lay ds (n - 1) o.2
    have h0 := of_decide_eq_true o.1
    exact ⟨h1, by show PyData.depthAll (toPys ds) + 1 ≤ n; omega⟩
  | .rol ds, n, o => by
    have o : (decide (0 < n) && okEs (n - 1) ds) = true := o
    rw [Bool.and_eq_true] at o
    obtain ⟨h1, h2⟩ := okEs_lay ds (n - 1) o.2
    have h0 := of_decide_eq_true o.1
    exact ⟨h1, by show PyData.depthAll (toPys ds) + 1 ≤ n; omega⟩
  | .tup ds, n, o => by
    have o : (decide (0 < n) && okEs (n - 1) ds) = true := o
    rw [Bool.and_eq_true] at o
    obtain ⟨h1, h2⟩ := okEs_lay ds (n - 1) o.2
    have h0 := of_decide_eq_true o.1
    exact ⟨h1, by show PyData.depthAll (toPys ds) + 1 ≤ n; omega⟩
  | .rot ds, n, o => by
    have o : (decide (0 < n) && okEs (n - 1) ds) = true := o
    rw [Bool.and_eq_true] at o
    obtain ⟨h1, h2⟩ := okEs_lay ds (n - 1) o.2
    have h0 := of_decide_eq_true o.1
    exact ⟨h1, by show PyData.depthAll (toPys ds) + 1 ≤ n; omega⟩
  | .ty _, _, o => nomatch o
  | .cls _, _, o => nomatch o
  | .hnd _, _, o => nomatch o
  | .st _, _, o => nomatch o
  | .exc _ _ _ _, _, o => nomatch o
theorem okEs_lay : ∀ (ds : List D) (n : Nat), okEs n ds = true → PyData.canLayAll0 (toPys ds) = true ∧ PyData.depthAll (toPys ds) ≤ n
  | [], _, _ => ⟨rfl, Nat.zero_le _⟩
  | d :: ds, n, o => by
    have o : (okE n d && okEs n ds) = true := o
    rw [Bool.and_eq_true] at o
    obtain ⟨h1, h2⟩ := okE_lay d n o.1
    obtain ⟨h3, h4⟩ := okEs_lay ds n o.2
    refine ⟨?_, ?_⟩
    · show (PyData.canLay0 (toPy d) && PyData.canLayAll0 (toPys ds)) = true
      rw [h1, h3]; rfl
    · show max (PyData.depth (toPy d)) (PyData.depthAll (toPys ds)) ≤ n
      omega
end
theorem okE_shaped {d : D} (o : okE 64 d = true) : SeqAt.shaped (toPy d) = true := by
  obtain ⟨h1, h2⟩ := okE_lay d 64 o
  unfold SeqAt.shaped
  rw [h1, decide_eq_true h2]; rfl
end
/-- == of data -/
def eqD (x y : D) : Bool := PyData.eqv (toPy x) (toPy y)
def oEq : DO := fun x y m Φ => okE 64 x = true ∧ okE 64 y = true ∧ Φ (.bl (eqD x y)) m
def oNe : DO := fun x y m Φ => okE 64 x = true ∧ okE 64 y = true ∧ Φ (.bl (!eqD x y)) m
theorem opl_eq {K : PySem.W.Frag} : OpL K (rEqD K) oEq := fun w m H x y u v Q Φ h r1 r2 vl ⟨o1, o2, q⟩ => ⟨_, _, dp_of h x u 64 r1 o1, dp_of h y v 64 r2 o2, okE_shaped o1, okE_shaped o2, vl.bl h q⟩
theorem opl_ne {K : PySem.W.Frag} : OpL K (rNeD K) oNe := fun w m H x y u v Q Φ h r1 r2 vl ⟨o1, o2, q⟩ => ⟨_, _, dp_of h x u 64 r1 o1, dp_of h y v 64 r2 o2, okE_shaped o1, okE_shaped o2, vl.bl h q⟩
theorem eqD_int {i j : Int} : eqD (.int i) (.int j) = decide (i = j) := by
  show (i == j) = _
  rw [Bool.beq_eq_decide_eq]
theorem eqD_str {i j : Str} : eqD (.str i) (.str j) = decide (i = j) := by
  show (i == j) = _
  rw [Bool.beq_eq_decide_eq]
theorem eqD_bl {i j : Bool} : eqD (.bl i) (.bl j) = decide (i = j) := by
  show (i == j) = _
  rw [Bool.beq_eq_decide_eq]
theorem eqs_ints : ∀ {xs ys : List Int}, PyData.eqvAll (toPys (xs.map D.int)) (toPys (ys.map D.int)) = decide (xs = ys)
  | [], [] => rfl
  | [], y :: ys => by
    show false = _
    simp
  | x :: xs, [] => by
    show false = _
    simp
  | x :: xs, y :: ys => by
    show ((x == y) && PyData.eqvAll (toPys (xs.map D.int)) (toPys (ys.map D.int))) = _
    rw [eqs_ints, Bool.beq_eq_decide_eq]
    simp
theorem eqD_ints {xs ys : List Int} : eqD (.lst (xs.map D.int)) (.lst (ys.map D.int)) = decide (xs = ys) := eqs_ints
theorem okEs_ints {n : Nat} : ∀ {xs : List Int}, okEs n (xs.map D.int) = true
  | [] => rfl
  | x :: xs => by
    show (true && okEs n (xs.map D.int)) = true
    rw [okEs_ints]; rfl
theorem okE_ints {n : Nat} {xs : List Int} : okE (n + 1) (.lst (xs.map D.int)) = true := by
  show (decide (0 < n + 1) && okEs (n + 1 - 1) (xs.map D.int)) = true
  rw [okEs_ints]; simp
/-- is None -/
def isNon : D → Option Bool
  | .non => some true
  | .bl _ => some false
  | .int _ => some false
  | .str _ => some false
  | .lst _ => some false
  | .tup _ => some false
  | .rol _ => some false
  | .rot _ => some false
  | .hnd _ => some false
  | _ => none
def oIsN : DO := fun x y m Φ => match isNon x, y with
  | some b, .non => Φ (.bl b) m
  | _, _ => False
def oNotN : DO := fun x y m Φ => match isNon x, y with
  | some b, .non => Φ (.bl (!b)) m
  | _, _ => False
theorem isNon_ok {K : PySem.W.Frag} {w : Wd} {x : D} {v : V} {b : Bool} (e : isNon x = some b) (r : Rep K w x v) : decide (v = .non) = b := by
  cases x with
  | non => cases e; cases (show v = .non from r); rfl
  | bl c => cases e; cases (show v = .bl c from r); rfl
  | int c => cases e; cases (show v = .int c from r); rfl
  | str c => cases e; cases (show v = .str c from r); rfl
  | lst c => cases e; obtain ⟨a, _, rfl, _⟩ := r; rfl
  | tup c => cases e; obtain ⟨a, _, rfl, _⟩ := r; rfl
  | rol c => cases e; obtain ⟨a, _, rfl, _⟩ := r; rfl
  | rot c => cases e; obtain ⟨a, _, rfl, _⟩ := r; rfl
  | hnd c => cases e; obtain ⟨a, rfl, _⟩ := r; rfl
  | _ => cases e
theorem opl_isN {K : PySem.W.Frag} : OpL K (fun x y H Q => y = .non ∧ Q (.bl (decide (x = .non))) H) oIsN := fun w m H x y u v Q Φ h r1 r2 vl q => by
  unfold oIsN at q
  split at q
  · rename_i b e
    exact ⟨r2, vl.bl h (by rw [isNon_ok e r1]; exact q)⟩
  · exact q.elim
theorem opl_notN {K : PySem.W.Frag} : OpL K (fun x y H Q => y = .non ∧ Q (.bl (!decide (x = .non))) H) oNotN := fun w m H x y u v Q Φ h r1 r2 vl q => by
  unfold oNotN at q
  split at q
  · rename_i b e
    exact ⟨r2, vl.bl h (by rw [isNon_ok e r1]; exact q)⟩
  · exact q.elim
/-! subscripts -/
def oIx : DO := fun x y m Φ => match x, y with
  | .str z, .int i => z.length ≤ LIM ∧ ∃ c, atI z.cps.toList i = some c ∧ Φ (.str ⟨#[c]⟩) m
  | x, .int i => match asL m x with
    | some ds => ∃ d, atI ds i = some d ∧ Φ d m
    | none => match asT x with
      | some ds => ∃ d, atI ds i = some d ∧ Φ d m
      | none => False
  | _, _ => False
theorem atI_rep {K : PySem.W.Frag} {w : Wd} {ds : List D} {vs : List V} {i : Int} {d : D} (r : RepAll K w ds vs) (e : atI ds i = some d) : ∃ v, atI vs i = some v ∧ Rep K w d v := by
  unfold atI at e ⊢
  rw [r.length]
  cases q : ixN ds.length i with
  | none => rw [q] at e; cases e
  | some j => rw [q] at e; exact r.get e
theorem opl_ix {K : PySem.W.Frag} : OpL K (rIx K) oIx := fun w m H x y u v Q Φ h r1 r2 vl q => by
  unfold oIx at q
  split at q
  · obtain ⟨z, c, e, q⟩ := q
    exact .inr (.inr ⟨_, _, c, r1, r2, lim_sz z, e, vl.str h q⟩)
  · split at q
    · rename_i e
      obtain ⟨d, e2, q⟩ := q
      obtain ⟨a, us, rfl, ha, ra⟩ := asL_ok h e r1
      obtain ⟨v', e3, rd⟩ := atI_rep ra e2
      exact .inl ⟨a, us, _, v', rfl, r2, ha, e3, vl d m w H v' (.refl w) h rd q⟩
    · split at q
      · rename_i e
        obtain ⟨d, e2, q⟩ := q
        obtain ⟨a, us, rfl, ha, ra⟩ := asT_ok h e r1
        obtain ⟨v', e3, rd⟩ := atI_rep ra e2
        exact .inr (.inl ⟨a, us, _, v', rfl, r2, ha, e3, vl d m w H v' (.refl w) h rd q⟩)
      · exact q.elim
  · exact q.elim
section
variable {X : Cx} {E : WX} {a b c : Expr} {Wa Wb Wc : DE} {pos : Pos}
theorem je_ix (ha : JE X E a Wa) (hb : JE X E b Wb) (hs : PlainIx b := by exact fun _ _ => rfl) : JE X E (.Subscript a b pos) (dOp oIx Wa Wb) := PE.imp (pe_ix ix_seq ha hb hs) fun _ _ _ h => dOp_ok opl_ix h
/-- xs[lo:hi] -/
abbrev DPt := Env → MM → (Option Int → MM → Prop) → XP → Prop
def liftO (K : PySem.W.Frag) (E : WX) (W : DPt) : TO := fun σ H Q => ∃ w ρ m Ψ Φ, At K E w σ H ρ m Ψ ∧ (∀ o m' w' H', w.le w' → HRep K w' m' H' → Φ o m' → Q o H') ∧ W ρ m Φ Ψ
abbrev JO (X : Cx) (E : WX) (e : Option Expr) (W : DPt) : Prop := PO X e (liftO X.K E W)
theorem PO.imp {e : Option Expr} {t t' : TO} (h : PO X e t) (i : ∀ σ H Q, t' σ H Q → t σ H Q) : PO X e t' := ⟨fun pins s σ H Q I q => h.run pins s σ H Q I (i σ H Q q)⟩
def dpN : DPt := fun _ m Φ _ => Φ none m
def dpS (e : DE) : DPt := fun ρ m Φ Ψ => e ρ m (fun d m1 => match d with
  | .int i => Φ (some i) m1
  | _ => False) Ψ
theorem jo_none : JO X E none dpN := PO.imp po_none fun σ H Q ⟨w, ρ, m, Ψ, Φ, a, n, h⟩ => n none m w H (.refl w) a.h h
theorem jo_some (h : JE X E a Wa) : JO X E (some a) (dpS Wa) := PO.imp (po_some h) fun σ H Q ⟨w, ρ, m, Ψ, Φ, a, n, h⟩ => by
  refine ⟨w, ρ, m, Ψ, _, a, fun d m1 w1 H1 v l1 h1 r1 q1 => ?_, h⟩
  cases d with
  | int i => exact ⟨i, r1, n (some i) m1 w1 H1 l1 h1 q1⟩
  | _ => exact False.elim q1
def cutD (xs : List D) (lo hi : Option Int) : List D := (xs.drop (HT.sIx xs.length 0 lo)).take (HT.sIx xs.length xs.length hi - HT.sIx xs.length 0 lo)
theorem cut_rep {K : PySem.W.Frag} {w : Wd} {ds : List D} {vs : List V} (r : RepAll K w ds vs) (lo hi : Option Int) : RepAll K w (cutD ds lo hi) (cutV vs lo hi) := by
  unfold cutD cutV
  rw [r.length]
  exact (r.drop _).take _
def dSl (a : DE) (lo hi : DPt) : DE := fun ρ m Φ Ψ => a ρ m (fun d m1 => lo ρ m1 (fun l m2 => hi ρ m2 (fun u m3 => match asL m3 d with
  | some ds => Φ (.lst (cutD ds l u)) m3
  | none => False) Ψ) Ψ) Ψ
theorem je_sl {lo hi : Option Expr} {Wl Wh : DPt} {p2 : Pos} (ha : JE X E a Wa) (hl : JO X E lo Wl) (hh : JO X E hi Wh) : JE X E (.Subscript a (.Slice lo hi none p2) pos) (dSl Wa Wl Wh) := PE.imp (pe_slice sl_list ha hl hh) fun σ H Q ⟨w, ρ, m, Ψ, Φ, a, vl, h⟩ => by
  refine ⟨w, ρ, m, Ψ, _, a, fun d m1 w1 H1 v l1 h1 r1 q1 => ?_, h⟩
  refine ⟨w1, ρ, m1, Ψ, _, a.to l1 h1, fun o m2 w2 H2 l2 h2 q2 => ?_, q1⟩
  refine ⟨w2, ρ, m2, Ψ, _, a.to (l1.trans l2) h2, fun u m3 w3 H3 l3 h3 q3 => ?_, q2⟩
  split at q3
  · rename_i ds e
    obtain ⟨a, us, rfl, ha, ra⟩ := asL_ok h3 e (Rep.mono (l2.trans l3) _ _ r1)
    exact ⟨a, us, rfl, ha, fun p hp => (vl.mono (l1.trans (l2.trans l3))).newL h3 hp (cut_rep ra _ _) q3⟩
  · exact q3.elim
end
end Dl

namespace Dl
open PySem L2 PyProof.Rows

/-! ### comprehensions -/
abbrev XF : XP := fun _ _ _ => False
abbrev EF : WX := fun _ _ _ _ => False
def wipeD (ρ : Env) : List Nat → Env
  | [] => ρ
  | v :: vs => (wipeD ρ vs).set v none
theorem Slots.wipes {K : PySem.W.Frag} {w : Wd} {σ : L2.St} {ρ : Env} (h : Slots K w σ ρ) : ∀ vs, Slots K w (L2.wipe σ vs) (wipeD ρ vs)
  | [] => h
  | v :: vs => (Slots.wipes h vs).wipe v
def lcW (g : DG) (tt : DT) (te : DE) (ρ : Env) (Φ : D → MM → Prop) : List D → List D → MM → Prop
  | [], acc, m => Φ (.lst acc) m
  | d :: ds, acc, m => g d ρ (m.push (.lst acc)) fun ρ1 m1 => m1 = m.push (.lst acc) ∧ tt ρ1 (m.push (.lst acc)) (fun b m2 => m2 = m.push (.lst acc) ∧ if b = true then
      te ρ1 (m.push (.lst acc)) (fun y m3 => m3 = m.push (.lst acc) ∧ acc.length < LIM ∧ clD m.M.length y = true ∧ lcW g tt te ρ Φ ds (acc ++ [y]) m) XF
    else lcW g tt te ρ Φ ds acc m) XF
def dLc (it : DI) (g : DG) (tt : DT) (te : DE) (vs : List Nat) : DE := fun ρ m Φ Ψ => it ρ m (fun ds m1 => lcW g tt te (wipeD ρ vs) Φ ds [] m1) Ψ
def dYes : DT := fun _ m Φ _ => Φ true m
theorem xlift_F {K : PySem.W.Frag} {w : Wd} {E : WX} {σ : L2.St} : XLift K w E σ XF := fun _ _ _ _ _ _ _ _ _ _ _ q => q.elim
theorem clAll_app {n : Nat} : ∀ {xs ys : List D}, clAll n xs = true → clAll n ys = true → clAll n (xs ++ ys) = true
  | [], ys, _, h => h
  | x :: xs, ys, h, g => by
    have h : (clD n x && clAll n xs) = true := h
    rw [Bool.and_eq_true] at h
    show (clD n x && clAll n (xs ++ ys)) = true
    rw [h.1, clAll_app h.2 g]; rfl
theorem lc_ok {K : PySem.W.Frag} {E : WX} {wi : DI} {g : DG} {tt : DT} {te : DE} {vs : List Nat} {σ : L2.St} {H : Hp} {Q : VK} (h : lift K E (dLc wi g tt te vs) σ H Q) : tLc (liftI K E wi) (liftG K vs g) (liftT K EF tt) (lift K EF te) vs σ H Q := by
  obtain ⟨w, ρ, m, Ψ, Φ, a, vl, h⟩ := h
  refine ⟨w, ρ, m, Ψ, _, a, fun ds m1 w1 H1 J l1 h1 wk q1 => ?_, h⟩
  intro D hD
  refine ⟨fun i k H => k = ds.length - i ∧ i ≤ ds.length ∧ ∃ w' acc, w1.le w' ∧ HRep K w' (m1.push (.lst acc)) H ∧ w'.th[m1.M.length]? = some D ∧ clAll m1.M.length acc = true ∧ lcW g tt te (wipeD ρ vs) Φ (ds.drop i) acc m1, ⟨ds.length, by omega, Nat.zero_le _, w1.add D, [], Wd.le_add, h1.add hD ⟨[], upd_same, rfl⟩, ?_, rfl, q1⟩, ?_⟩
  · show (w1.th ++ [D])[m1.M.length]? = some D
    rw [← h1.len, List.getElem?_append_right (Nat.le_refl _)]; simp
  rintro i k H2 ⟨rfl, hi, w2, acc, l2, h2, hD2, hcl, q2⟩
  by_cases hlt : i < ds.length
  · have ed : ds[i]? = some ds[i] := List.getElem?_eq_getElem hlt
    have dr : ds.drop i = ds[i] :: ds.drop (i + 1) := List.drop_eq_getElem_cons hlt
    rw [dr] at q2
    refine .inr ⟨wk.go w2 _ H2 i _ l2 h2 ed, fun H' => ∃ w' acc, w1.le w' ∧ HRep K w' (m1.push (.lst acc)) H' ∧ w'.th[m1.M.length]? = some D ∧ clAll m1.M.length acc = true ∧ lcW g tt te (wipeD ρ vs) Φ (ds.drop (i + 1)) acc m1, fun H' z => ⟨ds.length - (i + 1), by omega, rfl, hlt, z⟩, fun x H3 y => ?_⟩
    obtain ⟨w3, l3, h3, r3⟩ := wk.yld w2 _ H2 i _ x H3 l2 h2 ed y
    have s3 : Slots K w3 (wipe σ vs) (wipeD ρ vs) := ((a.s.mono l1).mono (l2.trans l3)).wipes vs
    refine ⟨w3, wipeD ρ vs, _, ds[i], _, h3, s3, r3, fun ρ' m' w' H' σ' l h' s' e q => ⟨e.trans wipe_wipe, ?_⟩, q2⟩
    obtain ⟨rfl, q⟩ := q
    refine ⟨w', ρ', _, XF, _, ⟨h', s', xlift_F⟩, fun b m4 w4 H4 l4 h4 q4 => ?_, q⟩
    obtain ⟨rfl, q4⟩ := q4
    have l24 : w2.le w4 := l3.trans (l.trans l4)
    cases b with
    | true =>
      rw [if_pos rfl] at q4
      show (if true = true then _ else _)
      rw [if_pos rfl]
      refine ⟨w4, ρ', _, XF, _, ⟨h4, s'.mono l4, xlift_F⟩, fun y m5 w5 H5 v l5 h5 r5 q5 => ?_, q4⟩
      obtain ⟨rfl, hz, hy, q5⟩ := q5
      have hD5 : w5.th[m1.M.length]? = some D := l5.th _ _ (l24.th _ _ hD2)
      have hM : (m1.push (.lst acc)).M[m1.M.length]? = some (.lst acc) := by
        show (m1.M ++ [MO.lst acc])[m1.M.length]? = _
        rw [List.getElem?_append_right (Nat.le_refl _)]; simp
      obtain ⟨xs, hx, r⟩ := h5.obj _ D _ hD5 hM
      refine ⟨xs, hx, lim_lt (by rw [r.length]; exact hz), w5, acc ++ [y], l2.trans (l24.trans l5), ?_, hD5, clAll_app hcl (by show (clD _ y && true) = true; rw [hy]; rfl), q5⟩
      have z := h5.wr (ho := .lst (xs ++ [v])) (o' := .lst (acc ++ [y])) hD5 hM (fun z => by cases z) ⟨_, upd_same, r.append ⟨v, [], rfl, r5, rfl⟩⟩
      have e : (m1.push (.lst acc)).M.set m1.M.length (.lst (acc ++ [y])) = (m1.push (.lst (acc ++ [y]))).M := by
        show (m1.M ++ [MO.lst acc]).set m1.M.length (.lst (acc ++ [y])) = m1.M ++ [MO.lst (acc ++ [y])]
        rw [List.set_append_right _ _ (Nat.le_refl _)]; simp
      rw [e] at z
      exact z
    | false =>
      rw [if_neg Bool.false_ne_true] at q4
      show (if false = true then _ else _)
      rw [if_neg Bool.false_ne_true]
      exact ⟨w4, acc, l2.trans l24, h4, l24.th _ _ hD2, hcl, q4⟩
  · have e : i = ds.length := by omega
    subst e
    rw [List.drop_length] at q2
    refine .inl ⟨wk.stop w2 _ H2 l2 h2, ?_⟩
    have hM : (m1.push (.lst acc)).M[m1.M.length]? = some (.lst acc) := by
      show (m1.M ++ [MO.lst acc])[m1.M.length]? = _
      rw [List.getElem?_append_right (Nat.le_refl _)]; simp
    obtain ⟨xs, fD, hx, r, hf⟩ := h2.frz hD2 hM
    have et : ((m1.push (.lst acc)).M.set m1.M.length .dead).take m1.M.length = m1.M := by
      show ((m1.M ++ [MO.lst acc]).set m1.M.length .dead).take m1.M.length = m1.M
      rw [List.set_append_right _ _ (Nat.le_refl _), List.take_left']
      rfl
    have hc := hf.cut (n := m1.M.length) (fun o ho => by
      have ho : o ∈ ((m1.push (.lst acc)).M.set m1.M.length .dead).take m1.M.length := ho
      rw [et] at ho
      exact h1.cls o ho)
    have em : (MM.cut ⟨(m1.push (.lst acc)).M.set m1.M.length .dead, (m1.push (.lst acc)).s⟩ m1.M.length) = m1 := by
      show (⟨((m1.push (.lst acc)).M.set m1.M.length .dead).take m1.M.length, m1.s⟩ : MM) = m1
      rw [et]
    rw [em] at hc
    have lc : w1.le ((w2.put D (.lst xs)).cut m1.M.length) := Wd.le_cut (l2.trans (Wd.le_put fD)) (Nat.le_of_eq h1.len)
    refine vl (.lst acc) m1 _ H2 _ (l1.trans lc) hc ?_ q2
    exact ⟨D, xs, rfl, upd_same, RepAll.cut _ _ (RepAll.mono (Wd.le_put fD) _ _ r) hcl⟩
section
variable {X : Cx} {E : WX} {a b c : Expr} {Wa Wb Wc : DE} {pos : Pos}
theorem jts_nil {K : PySem.W.Frag} : PTs X [] (liftT K E dYes) := ⟨fun pins s σ H Q I ⟨w, ρ, m, Ψ, Φ, a, n, h⟩ => pts_nil.run pins s σ H Q I (n true m w H (.refl w) a.h h)⟩
theorem je_lc {elt tg iter : Expr} {ifs : List Expr} {scope : Scope} {own : List (Str × Nat)} {pos : Pos} {wi : DI} {g : DG} {tt : DT} {te : DE} (hc : X.calm = true) (hN : X.N.Nodup) (hi : JI X E tg iter wi) (ok : BlkOk X.N X.env.scope scope own)
    (hg : ∀ (s : Shared) (H : Hp) (C : Addr) (cl : List (Str × Addr)) (fp : List Addr), PG (X.blk s H scope (compEnvC scope cl C X.env) fp) tg (liftG X.K (own.map (·.2)) g))
    (ht : ∀ (s : Shared) (H : Hp) (C : Addr) (cl : List (Str × Addr)) (fp : List Addr), PTs (X.blk s H scope (compEnvC scope cl C X.env) fp) ifs (liftT X.K EF tt))
    (he : ∀ (s : Shared) (H : Hp) (C : Addr) (cl : List (Str × Addr)) (fp : List Addr), JE (X.blk s H scope (compEnvC scope cl C X.env) fp) EF elt te) (hs : ∀ x, foldedSetIterable iter X.env x = pure x := by intro _; rfl) :
    JE X E (.ListComp elt [⟨tg, iter, ifs, 0⟩] scope pos) (dLc wi g tt te (own.map (·.2))) := PE.imp (pe_lc hc hN hi ok hg ht he hs) fun _ _ _ h => lc_ok h
/-- y = [..] -/
theorem js_setLc (i : Nat) {y : Str} {py : Pos} {elt tg iter : Expr} {ifs : List Expr} {scope : Scope} {own : List (Str × Nat)} {pos spos : Pos} {wi : DI} {g : DG} {tt : DT} {te : DE} (hc : X.calm = true) (hN : X.N.Nodup) (hy : X.N[i]? = some y) (hyl : X.env.scope.names.lookup y = some .local)
    (hsw : swapsWith (.ListComp elt [⟨tg, iter, ifs, 0⟩] scope pos) (some (.Name y py)) spos.line X.env = pure true) (hi : JI X E tg iter wi) (ok : BlkOk X.N X.env.scope scope own)
    (hg : ∀ (s : Shared) (H : Hp) (C : Addr) (cl : List (Str × Addr)) (fp : List Addr), PG (X.blk s H scope (compEnvC scope cl C X.env) fp) tg (liftG X.K (own.map (·.2)) g))
    (ht : ∀ (s : Shared) (H : Hp) (C : Addr) (cl : List (Str × Addr)) (fp : List Addr), PTs (X.blk s H scope (compEnvC scope cl C X.env) fp) ifs (liftT X.K EF tt))
    (he : ∀ (s : Shared) (H : Hp) (C : Addr) (cl : List (Str × Addr)) (fp : List Addr), JE (X.blk s H scope (compEnvC scope cl C X.env) fp) EF elt te) (hs : ∀ x, foldedSetIterable iter X.env x = pure x := by intro _; rfl) :
    JS X E (.Assign [.Name y py] (.ListComp elt [⟨tg, iter, ifs, 0⟩] scope pos) spos) (dSet i (dLc wi g tt te (own.map (·.2)))) := PS.imp (ps_setLc hc hN hy hyl hsw hi ok hg ht he hs) fun D σ H ⟨w, ρ, m, Ψ, N, a, n, h⟩ => by
  refine lc_ok (E := E) ⟨w, ρ, m, Ψ ρ, _, a.at, fun d m1 w1 H1 v l1 h1 r1 q1 => ?_, h⟩
  exact n.nx _ m1 w1 H1 _ l1 h1 ((a.s.mono l1).set i r1) q1

/-! ### calls of built-ins -/
abbrev DCB := List D → MM → (D → MM → Prop) → Prop
def CbL (K : PySem.W.Frag) (r : List V → Hp → VK → Prop) (c : DCB) : Prop := ∀ w m H ds vs Q Φ, HRep K w m H → RepAll K w ds vs → VLift K w Q Φ → c ds m Φ → r vs H Q
def dCB (c : DCB) (r : DA) : DE := fun ρ m Φ Ψ => r ρ m (fun ds m1 => c ds m1 Φ) Ψ
variable {e : Expr} {es : List Expr} {x : Str} {p : Pos} {Ws : DA} {r : List V → Hp → VK → Prop} {cb : DCB}
theorem je_callB {id : String} (hc : CallR X (.builtin id) r) (hl : CbL X.K r cb) (hg : Gl X x) (hm : X.mg x = none) (hv : bootBuiltins x = some (.builtin id)) (ha : JA X E (e :: es) Ws) (hn : x ≠ "__name__" := by decide) (hdb : (x == ("__debug__" : Str)) = false := by decide)
    (he : starEach (e :: es) X.env = (false, eval e X.env) :: starEach es X.env := by rfl) (hpl : (backTo pos (starEach es X.env)).any (·.1) = false := by rfl) : JE X E (.Call (.Name x p) (e :: es) [] pos) (dCB cb Ws) :=
  PE.imp (pe_callB hc hg hm hv ha hn hdb he hpl) fun σ H Q ⟨w, ρ, m, Ψ, Φ, a, vl, h⟩ => ⟨w, ρ, m, Ψ, _, a, fun ds m1 w1 H1 vs l1 h1 r1 q1 => hl w1 m1 H1 ds vs Q Φ h1 r1 (vl.mono l1) q1, h⟩
theorem je_callTy {T : String} (hc : CallR X (.type T) r) (hl : CbL X.K r cb) (hg : Gl X x) (hm : X.mg x = none) (hv : bootBuiltins x = some (.type T)) (ha : JA X E (e :: es) Ws) (hn : x ≠ "__name__" := by decide) (hdb : (x == ("__debug__" : Str)) = false := by decide)
    (he : starEach (e :: es) X.env = (false, eval e X.env) :: starEach es X.env := by rfl) (hpl : (backTo pos (starEach es X.env)).any (·.1) = false := by rfl) : JE X E (.Call (.Name x p) (e :: es) [] pos) (dCB cb Ws) :=
  PE.imp (pe_callTy hc hg hm hv ha hn hdb he hpl) fun σ H Q ⟨w, ρ, m, Ψ, Φ, a, vl, h⟩ => ⟨w, ρ, m, Ψ, _, a, fun ds m1 w1 H1 vs l1 h1 r1 q1 => hl w1 m1 H1 ds vs Q Φ h1 r1 (vl.mono l1) q1, h⟩
end
def cLen : DCB := fun ds m Φ => match ds with
  | [.str z] => z.length ≤ LIM ∧ Φ (.int z.length) m
  | [d] => match asL m d with
    | some xs => Φ (.int xs.length) m
    | none => match asT d with
      | some xs => Φ (.int xs.length) m
      | none => False
  | _ => False
theorem cbl_len {K : PySem.W.Frag} : CbL K (fun xs H Q => ∃ x n, xs = [x] ∧ LenV K x H n ∧ Q (.int n) H) cLen := fun w m H ds vs Q Φ h r vl q => by
  unfold cLen at q
  split at q
  · obtain ⟨v, rfl, rv⟩ := rep1 r
    cases (show v = V.str _ from rv)
    exact ⟨_, _, rfl, ⟨lim_sz q.1, rfl⟩, vl.int h q.2⟩
  · obtain ⟨v, rfl, rv⟩ := rep1 r
    split at q
    · rename_i e
      obtain ⟨a, us, rfl, ha, ra⟩ := asL_ok h e rv
      exact ⟨_, _, rfl, .inl ⟨us, ha, rfl⟩, vl.int h (by rw [ra.length]; exact q)⟩
    · split at q
      · rename_i e
        obtain ⟨a, us, rfl, ha, ra⟩ := asT_ok h e rv
        exact ⟨_, _, rfl, .inr ⟨us, ha, rfl⟩, vl.int h (by rw [ra.length]; exact q)⟩
      · exact q.elim
  · exact q.elim
def cInt : DCB := fun ds m Φ => match ds with
  | [.int i] => Φ (.int i) m
  | [.bl b] => Φ (.int (if b then 1 else 0)) m
  | _ => False
theorem cbl_int {K : PySem.W.Frag} : CbL K (fun xs H Q => (∃ i, xs = [V.int i] ∧ Q (.int i) H) ∨ ∃ k, xs = [V.bl k] ∧ Q (.int (if k then 1 else 0)) H) cInt := fun w m H ds vs Q Φ h r vl q => by
  unfold cInt at q
  split at q
  · obtain ⟨v, rfl, rv⟩ := rep1 r
    cases (show v = V.int _ from rv)
    exact .inl ⟨_, rfl, vl.int h q⟩
  · obtain ⟨v, rfl, rv⟩ := rep1 r
    cases (show v = V.bl _ from rv)
    exact .inr ⟨_, rfl, vl.int h q⟩
  · exact q.elim
def cAbs : DCB := fun ds m Φ => match ds with
  | [.int i] => Φ (.int (if i < 0 then -i else i)) m
  | _ => False
theorem cbl_abs {K : PySem.W.Frag} : CbL K (fun xs H Q => ∃ i, xs = [V.int i] ∧ Q (.int (if i < 0 then -i else i)) H) cAbs := fun w m H ds vs Q Φ h r vl q => by
  unfold cAbs at q
  split at q
  · obtain ⟨v, rfl, rv⟩ := rep1 r
    cases (show v = V.int _ from rv)
    exact ⟨_, rfl, vl.int h q⟩
  · exact q.elim
def intsD : List D → Option (List Int)
  | [] => some []
  | .int i :: r => (intsD r).map (i :: ·)
  | _ => none
theorem ints_ok {K : PySem.W.Frag} {w : Wd} : ∀ {ds : List D} {vs : List V} {ns : List Int}, intsD ds = some ns → RepAll K w ds vs → vs = ns.map V.int
  | [], vs, ns, e, r => by cases e; exact r
  | d :: ds, vs, ns, e, r => by
    obtain ⟨v, r', rfl, rv, rr⟩ := r
    cases d with
    | int i =>
      have e : (intsD ds).map (i :: ·) = some ns := e
      cases q : intsD ds with
      | none => rw [q] at e; cases e
      | some ns' =>
        rw [q] at e; cases e
        cases (show v = V.int i from rv)
        rw [ints_ok q rr]; rfl
    | _ => cases e
theorem ints_map : ∀ (ns : List Int), intsD (ns.map D.int) = some ns
  | [] => rfl
  | n :: ns => by
    show (intsD (ns.map D.int)).map (n :: ·) = _
    rw [ints_map ns]; rfl
def cSum : DCB := fun ds m Φ => match ds with
  | [d] => match asL m d with
    | some xs => ∃ ns, intsD xs = some ns ∧ Φ (.int ns.sum) m
    | none => False
  | _ => False
theorem cbl_sum {K : PySem.W.Frag} : CbL K (rSum K) cSum := fun w m H ds vs Q Φ h r vl q => by
  unfold cSum at q
  split at q
  · obtain ⟨v, rfl, rv⟩ := rep1 r
    split at q
    · rename_i e
      obtain ⟨ns, e2, q⟩ := q
      obtain ⟨a, us, rfl, ha, ra⟩ := asL_ok h e rv
      exact ⟨a, ns, rfl, by rw [← ints_ok e2 ra]; exact ha, vl.int h q⟩
    · exact q.elim
  · exact q.elim
def cMax2 : DCB := fun ds m Φ => match ds with
  | [.int i, .int j] => Φ (.int (if j > i then j else i)) m
  | _ => False
def cMin2 : DCB := fun ds m Φ => match ds with
  | [.int i, .int j] => Φ (.int (if j < i then j else i)) m
  | _ => False
/-- list(x): a new list, frozen or changing -/
def cList : DCB := fun ds m Φ => match ds with
  | [d] => match asL m d with
    | some xs => Φ (.lst xs) m
    | none => match asT d with
      | some xs => Φ (.lst xs) m
      | none => False
  | _ => False
theorem cbl_list {K : PySem.W.Frag} : CbL K (fun xs H Q => ∃ p ys, xs = [V.ref p] ∧ (SqL K H p ys ∨ SqT K H p ys) ∧ ∀ l, H l = none → Q (.ref l) (upd H l (.lst ys))) cList := fun w m H ds vs Q Φ h r vl q => by
  unfold cList at q
  split at q
  · obtain ⟨v, rfl, rv⟩ := rep1 r
    split at q
    · rename_i e
      obtain ⟨a, us, rfl, ha, ra⟩ := asL_ok h e rv
      exact ⟨a, us, rfl, .inl ha, fun l hl => vl.newL h hl ra q⟩
    · split at q
      · rename_i e
        obtain ⟨a, us, rfl, ha, ra⟩ := asT_ok h e rv
        exact ⟨a, us, rfl, .inr ha, fun l hl => vl.newL h hl ra q⟩
      · exact q.elim
  · exact q.elim
end Dl

namespace Dl
open PySem L2 PyProof.Rows

/-! ### isinstance -/
def tyD (m : MM) : D → Option String
  | .non => some "NoneType"
  | .bl _ => some "bool"
  | .int _ => some "int"
  | .str _ => some "str"
  | .lst _ => some "list"
  | .tup _ => some "tuple"
  | .hnd k => (moL m.M[k]?).map fun _ => "list"
  | _ => none
theorem tyD_ok {K : PySem.W.Frag} {w : Wd} {m : MM} {H : Hp} {d : D} {v : V} {T : String} (h : HRep K w m H) (e : tyD m d = some T) (r : Rep K w d v) : TyX K H v (.type T) := by
  cases d with
  | non => cases e; cases (show v = .non from r); exact .base .non
  | bl b => cases e; cases (show v = .bl b from r); exact .base (.bl b)
  | int b => cases e; cases (show v = .int b from r); exact .base (.int b)
  | str b => cases e; cases (show v = .str b from r); exact .base (.str b)
  | lst es => cases e; obtain ⟨a, xs, rfl, q, _⟩ := r; exact .base (.lst (h.ext _ _ q))
  | tup es => cases e; obtain ⟨a, xs, rfl, q, _⟩ := r; exact .base (.tup (h.ext _ _ q))
  | hnd k =>
    obtain ⟨a, rfl, q2⟩ := r
    have e : (moL m.M[k]?).map (fun _ => "list") = some T := e
    cases q : moL m.M[k]? with
    | none => rw [q] at e; cases e
    | some ds =>
      rw [q] at e; cases e
      obtain ⟨xs, hx, _⟩ := h.obj k a _ q2 (moL_eq q)
      exact .base (.lst hx)
  | _ => cases e
def cIsi : DCB := fun ds m Φ => match ds with
  | [x, .ty n] => match (tyD m x).bind fun t => kitB t n with
    | some b => Φ (.bl b) m
    | none => False
  | _ => False
theorem cbl_isi {K : PySem.W.Frag} : CbL K (rIsi K) cIsi := fun w m H ds vs Q Φ h r vl q => by
  unfold cIsi at q
  split at q
  · rename_i x n
    obtain ⟨v, u, rfl, rv, ru⟩ := rep2 r
    cases (show u = V.ty n from ru)
    split at q
    · rename_i b e
      cases e1 : tyD m x with
      | none => rw [e1] at e; cases e
      | some t =>
        rw [e1] at e
        exact ⟨v, .ty n, .type t, .type n, b, rfl, .ty n, tyD_ok h e1 rv, kit_ty e, vl.bl h q⟩
    · exact q.elim
  · exact q.elim
section
variable {X : Cx} {E : WX} {a b c : Expr} {Wa Wb Wc : DE} {pos : Pos} {e : Expr} {es : List Expr} {Ws : DA}
theorem je_ty {x : Str} {n : String} {pos : Pos} (hg : Gl X x) (hm : X.mg x = none) (hv : bootBuiltins x = some (.type n)) (hn : x ≠ "__name__" := by decide) (hd : (x == ("__debug__" : Str)) = false := by decide) : JE X E (.Name x pos) (dC (.ty n)) :=
  je_of (v := .ty n) (pe_bltn hg hm hv rfl hn hd) fun _ => rfl
/-! ### methods of lists -/
def dMethL (c : D → List D → MM → (D → MM → Prop) → Prop) (o : DE) (r : DA) : DE := fun ρ m Φ Ψ => o ρ m (fun x m1 => (asL m1 x).isSome = true ∧ r ρ m1 (fun ds m2 => c x ds m2 Φ) Ψ) Ψ
def MtL (K : PySem.W.Frag) (r : V → List V → Hp → VK → Prop) (c : D → List D → MM → (D → MM → Prop) → Prop) : Prop := ∀ w m H x ds u vs Q Φ, HRep K w m H → Rep K w x u → RepAll K w ds vs → VLift K w Q Φ → c x ds m Φ → r u vs H Q
theorem tyL_ok {K : PySem.W.Frag} {w : Wd} {m : MM} {H : Hp} {d : D} {v : V} (h : HRep K w m H) (e : (asL m d).isSome = true) (r : Rep K w d v) : tyV K "list" v H := by
  obtain ⟨ds, e⟩ := Option.isSome_iff_exists.mp e
  obtain ⟨a, xs, rfl, q, _⟩ := asL_ok h e r
  exact .inl ⟨rfl, xs, q⟩
theorem je_mL {name : Str} {id : String} {r : V → List V → Hp → VK → Prop} {c : D → List D → MM → (D → MM → Prop) → Prop} {apos cpos : Pos} {o : Expr} {Wo : DE} (slot : Slot "list" name id) (hty : typeOf (.builtin id) = pure (.type "method_descriptor")) (hm : MtR X id r) (hl : MtL X.K r c) (ho : JE X E o Wo) (ha : JA X E (e :: es) Ws)
    (hbase : attributeBase o name X.env (eval o X.env) = eval o X.env := by rfl)
    (hfew : ((backTo cpos (starEach (e :: es) X.env)).all (fun x => !x.1) && (backToKw cpos (keywordEach [] X.env)).all (fun x => x.1.isSome)
      && decide ((e :: es).length + ([] : List Keyword).length + (if ([] : List Keyword).isEmpty then 0 else 1) < 30)) = true := by rfl)
    (hline : (apos.endLine == cpos.line) = true := by rfl) (hs : starEach (e :: es) X.env = (false, eval e X.env) :: starEach es X.env := by rfl) (hplain : (backTo cpos (starEach es X.env)).any (·.1) = false := by rfl) :
    JE X E (.Call (.Attribute o name apos) (e :: es) [] cpos) (dMethL c Wo Ws) := PE.imp (pe_bm PySem.F.plainAttrs_list slot hty hm ho ha hbase hfew hline hs hplain) fun σ H Q ⟨w, ρ, m, Ψ, Φ, a, vl, h⟩ => by
  refine ⟨w, ρ, m, Ψ, _, a, fun d m1 w1 H1 v l1 h1 r1 q1 => ?_, h⟩
  refine ⟨tyL_ok h1 q1.1 r1, w1, ρ, m1, Ψ, _, a.to l1 h1, fun ds m2 w2 H2 vs l2 h2 r2 q2 => ?_, q1.2⟩
  exact hl w2 m2 H2 d ds v vs Q Φ h2 (Rep.mono l2 _ _ r1) r2 (vl.mono (l1.trans l2)) q2
end
theorem VLift.wr {K : PySem.W.Frag} {w : Wd} {m : MM} {H : Hp} {Q : VK} {Φ : D → MM → Prop} {k : Nat} {a : Addr} {ds ds' : List D} {xs' : List V} {d : D} {v : V} (vl : VLift K w Q Φ) (h : HRep K w m H) (e : w.th[k]? = some a) (eo : m.M[k]? = some (.lst ds)) (r : RepAll K w ds' xs')
    (rd : Rep K w d v) (q : Φ d ⟨m.M.set k (.lst ds'), m.s⟩) : Q v (upd H a (.lst xs')) :=
  vl d _ w _ v (.refl w) (h.wr (o' := .lst ds') e eo (fun z => by cases z) ⟨xs', upd_same, r⟩) rd q
def oApp : D → List D → MM → (D → MM → Prop) → Prop := fun x ds m Φ => match x, ds with
  | .hnd k, [y] => match moL m.M[k]? with
    | some xs => xs.length < LIM ∧ Φ .non ⟨m.M.set k (.lst (xs ++ [y])), m.s⟩
    | none => False
  | _, _ => False
theorem mtl_app {K : PySem.W.Frag} : MtL K rAppend oApp := fun w m H x ds u vs Q Φ h r rs vl q => by
  unfold oApp at q
  split at q
  · split at q
    · rename_i k y _ xs e
      obtain ⟨a, rfl, q2⟩ := r
      obtain ⟨v, rfl, rv⟩ := rep1 rs
      obtain ⟨us, hx, ru⟩ := h.obj k a _ q2 (moL_eq e)
      exact ⟨a, us, v, rfl, rfl, hx, lim_lt (by rw [ru.length]; exact q.1), vl.wr (ds' := xs ++ [y]) (d := .non) h q2 (moL_eq e) (ru.append ⟨v, [], rfl, rv, rfl⟩) rfl q.2⟩
    · exact q.elim
  · exact q.elim
def oPop : D → List D → MM → (D → MM → Prop) → Prop := fun x ds m Φ => match x, ds with
  | .hnd k, [] => match moL m.M[k]? with
    | some xs => ∃ y, xs[xs.length - 1]? = some y ∧ Φ y ⟨m.M.set k (.lst xs.dropLast), m.s⟩
    | none => False
  | _, _ => False
theorem RepAll.dropLast {K : PySem.W.Frag} {w : Wd} {ds : List D} {vs : List V} (r : RepAll K w ds vs) : RepAll K w ds.dropLast vs.dropLast := by
  rw [List.dropLast_eq_take, List.dropLast_eq_take, r.length]
  exact r.take _
theorem RepAll.eraseIdx {K : PySem.W.Frag} {w : Wd} {ds : List D} {vs : List V} (r : RepAll K w ds vs) (i : Nat) : RepAll K w (ds.eraseIdx i) (vs.eraseIdx i) := by
  rw [List.eraseIdx_eq_take_drop_succ, List.eraseIdx_eq_take_drop_succ]
  exact (r.take i).append (r.drop (i + 1))
def oPopAt : D → List D → MM → (D → MM → Prop) → Prop := fun x ds m Φ => match x, ds with
  | .hnd k, [.int i] => match moL m.M[k]? with
    | some xs => (-(2 ^ 63) ≤ i ∧ i < 2 ^ 63) ∧ ∃ j y, seqIndex? i xs.length = some j ∧ xs[j]? = some y ∧ Φ y ⟨m.M.set k (.lst (xs.eraseIdx j)), m.s⟩
    | none => False
  | _, _ => False
section
variable {X : Cx} {E : WX} {a b c : Expr} {Wa Wb Wc : DE} {pos : Pos} {e : Expr} {es : List Expr} {Ws : DA}
/-- o[i] = e -/
def dSetIx (e o i : DE) : DS := fun N Ψ ρ m => e ρ m (fun v m1 => o ρ m1 (fun x m2 => i ρ m2 (fun j m3 => match x, j with
  | .hnd k, .int j => match moL m3.M[k]? with
    | some xs => ∃ n, ixN xs.length j = some n ∧ N.nx ρ ⟨m3.M.set k (.lst (xs.set n v)), m3.s⟩
    | none => False
  | _, _ => False) (Ψ ρ)) (Ψ ρ)) (Ψ ρ)
theorem js_setIx {o i : Expr} {Wo Wi : DE} {p1 : Pos} (he : JE X E a Wa) (ho : JE X E o Wo) (hi : JE X E i Wi) (h0 : PG X (.Subscript o i p1) (gSub (lift X.K E Wo) (lift X.K E Wi) rSetL))
    (hs : swapsWithSole [.Subscript o i p1] a pos.line X.env = pure false := by rfl) (hw : swappedStores [.Subscript o i p1] a X.env = pure none := by rfl) (h1 : (assignEach [.Subscript o i p1] X.env).map (·.2) = [assign (.Subscript o i p1) X.env] := by rfl) :
    JS X E (.Assign [.Subscript o i p1] a pos) (dSetIx Wa Wo Wi) := PS.imp (ps_asg he h0 hs hw h1) fun D σ H ⟨w, ρ, m, Ψ, N, a, n, h⟩ => by
  refine ⟨w, ρ, m, Ψ ρ, _, a.at, fun d m1 w1 H1 v l1 h1 r1 q1 => ?_, h⟩
  have a1 := a.to l1 h1
  refine ⟨w1, ρ, m1, Ψ ρ, _, a1.at, fun x m2 w2 H2 u l2 h2 r2 q2 => ?_, q1⟩
  refine ⟨w2, ρ, m2, Ψ ρ, _, (a1.to l2 h2).at, fun j m3 w3 H3 y l3 h3 r3 q3 => ?_, q2⟩
  split at q3
  · split at q3
    · rename_i k j _ xs e
      obtain ⟨nn, en, q⟩ := q3
      obtain ⟨b, rfl, q2⟩ := Rep.mono l3 _ _ r2
      cases (show y = V.int j from r3)
      obtain ⟨us, hx, ru⟩ := h3.obj k b _ q2 (moL_eq e)
      refine ⟨b, us, j, nn, rfl, rfl, hx, by rw [ru.length]; exact en, ?_⟩
      have l13 := l1.trans (l2.trans l3)
      exact n.nx ρ _ w3 _ σ l13 (h3.wr (o' := .lst (xs.set nn d)) q2 (moL_eq e) (fun z => by cases z) ⟨_, upd_same, ru.set nn (Rep.mono (l2.trans l3) _ _ r1)⟩) (a.s.mono l13) q
    · exact q3.elim
  · exact q3.elim
end

/-! ### a def by its body -/
theorem slots_start {K : PySem.W.Frag} {w : Wd} {ds : List D} {vs : List V} {N : List Str} (r : RepAll K w ds vs) : Slots K w (L2.start N vs) (ds.map some ++ List.replicate (N.length - ds.length) none) := by
  unfold L2.start
  refine ⟨by simp [r.length], fun i d e => ?_⟩
  have hi : i < ds.length := by
    rcases Nat.lt_or_ge i ds.length with h | h
    · exact h
    · rw [List.getElem?_append_right (by simpa using h), List.getElem?_replicate] at e
      split at e <;> cases e
  rw [List.getElem?_append_left (by simpa using hi), List.getElem?_map] at e
  cases q : ds[i]? with
  | none => rw [q] at e; cases e
  | some d' =>
    rw [q] at e; cases e
    obtain ⟨v, ev, rv⟩ := r.get q
    refine ⟨v, ?_, rv⟩
    rw [List.getElem?_append_left (by simpa [r.length] using hi), List.getElem?_map, ev]; rfl
section
variable {P : Program} {w : World} {K : PySem.W.Frag} {mg : Str → Option Value} {base : Heap}
abbrev wishE (E : XK) : WX := fun cls d _ H => E cls d H
theorem takesD {N : List Str} {qual : Str} {st : Stmt} {f : Addr} {cdv : Value} {A : Around} {outer : List PySem.Env} {s : Shared} {H : Hp} {E : XK} : Takes (cxOf (L2.CX P w) P w K mg base N qual (defScope st) f cdv A outer s H E) (wishE E) := takes_of rfl rfl rfl rfl
theorem passD {N : List Str} {qual : Str} {st : Stmt} {f : Addr} {cdv : Value} {A : Around} {outer : List PySem.Env} {s : Shared} {H : Hp} {E : XK} :
    PassesOwn (model (cxOf (L2.CX P w) P w K mg base N qual (defScope st) f cdv A outer s H E).prog (cxOf (L2.CX P w) P w K mg base N qual (defScope st) f cdv A outer s H E).w) (cxOf (L2.CX P w) P w K mg base N qual (defScope st) f cdv A outer s H E).A
      (cxOf (L2.CX P w) P w K mg base N qual (defScope st) f cdv A outer s H E).env (cxOf (L2.CX P w) P w K mg base N qual (defScope st) f cdv A outer s H E).xe := passes_of rfl
theorem okD {x qual : Str} {st : Stmt} {f : Addr} {fd : FuncData} {N ps : List Str} {k : Nat} {C : DC} {W : DS} (F : Fun K x qual st f fd) (S : FnScope N ps (defScope st))
    (hb : ∀ (cdv : Value) (A : Around) (outer : List PySem.Env) (s : Shared) (H : Hp) (E : XK), Room k (A.deeper (envOfC qual (defScope st) s.heap.objs.size f cdv)) → JSs (cxOf (L2.CX P w) P w K mg base N qual (defScope st) f cdv A outer s H E) (wishE E) (defBody st) W)
    (hC : ∀ ds m Φ Ψ, ds.length = ps.length → C ds m Φ Ψ → W { nx := fun _ m' => Φ .non m', rt := Φ } (fun _ => Ψ) (ds.map some ++ List.replicate (N.length - ds.length) none) m) :
    FnOk P w K mg base (L2.CX P w) (k + 1) f fd ps (spOf K ps.length C) := by
  refine F.okX S (fun vs H Q E h => h.1) fun cdv A outer s H vs Q E hr h => ⟨_, hb cdv A outer s H E hr, ?_⟩
  obtain ⟨hl, w0, ds, m, Φ, Ψ, h0, r, vl, xl, c⟩ := h
  have hd : ds.length = ps.length := r.length.symm.trans hl
  refine ⟨w0, _, m, fun _ => Ψ, _, ⟨h0, slots_start r, fun ρ σ w1 l1 _ C fs m' w' H' d xs l a b c q => xl C fs m' w' H' d xs (l1.trans l) a b c q⟩, ?_, hC ds m Φ Ψ hd c⟩
  exact ⟨fun ρ m' w' H' σ l h' _ q => vl .non m' w' H' _ l h' rfl q, vl, fun _ _ _ _ _ _ _ _ q => q.elim, fun _ _ _ _ _ _ _ _ q => q.elim⟩
end
end Dl

namespace Dl
open PySem L2 PyProof.Rows

abbrev oSub : DO := oI0 fun i j => i - j
abbrev oMul : DO := oI MulC fun i j => i * j
abbrev oDiv : DO := oI DivC fun i j => i / j
abbrev oMod : DO := oI ModC fun i j => i % j
abbrev oLt : DO := oB0 fun i j => decide (i < j)
abbrev oLe : DO := oB0 fun i j => decide (i ≤ j)
abbrev oGt : DO := oB0 fun i j => decide (j < i)
theorem opl_sub {K : PySem.W.Frag} : OpL K (rI0 fun i j => .int (i - j)) oSub := opl_I0
theorem opl_addI {K : PySem.W.Frag} : OpL K (rI0 fun i j => .int (i + j)) (oI0 fun i j => i + j) := opl_I0
theorem opl_mul {K : PySem.W.Frag} : OpL K (rI MulC fun i j => .int (i * j)) oMul := opl_I fun _ _ h => h
theorem opl_div {K : PySem.W.Frag} : OpL K (rI CDivW fun i j => .int (i / j)) oDiv := opl_I fun _ _ h => divC_ok h
theorem opl_mod {K : PySem.W.Frag} : OpL K (rI (fun _ j => 0 < j) fun i j => .int (i % j)) oMod := opl_I fun _ _ h => h
theorem opl_lt {K : PySem.W.Frag} : OpL K (rI0 fun i j => .bl (decide (i < j))) oLt := opl_B0
theorem opl_le {K : PySem.W.Frag} : OpL K (rI0 fun i j => .bl (decide (i ≤ j))) oLe := opl_B0
theorem opl_gt {K : PySem.W.Frag} : OpL K (rI0 fun i j => .bl (decide (j < i))) oGt := opl_B0
def oShl : DO := oI CPow fun i j => i * 2 ^ j.toNat
theorem opl_shl {K : PySem.W.Frag} : OpL K (rI CPow fun i j => .int (i * 2 ^ j.toNat)) oShl := opl_I fun _ _ h => h
def oNeg : DO1 := fun x m Φ => match x with
  | .int i => Φ (.int (-i)) m
  | _ => False
theorem opl_idiv {K : PySem.W.Frag} : OpL K (rI CDiv fun i j => .int (i / j)) (oI CDiv fun i j => i / j) := opl_I fun _ _ h => h

/-- every parameter is given -/
abbrev BA (fd : FuncData) (ps : List Str) : Prop := ∀ us : List Value, us.length = ps.length → bindArgs fd ⟨us, []⟩ = pure (ps.zip us)
/-- a def stands and keeps its worth -/
def Ok (P : Program) (w : World) (K : PySem.W.Frag) (mg : Str → Option Value) (base : Heap) (x : Str) (lv : Nat) (ps : List Str) (C : DC) : Prop :=
  ∃ f fd, mg x = some (.ref f) ∧ PySem.W.keepIn K (.ref f) = true ∧ BA fd ps ∧ FnOk P w K mg base (L2.CX P w) lv f fd ps (spOf K ps.length C)
/-- a def as the top has written it -/
def DefT (K : PySem.W.Frag) (mg : Str → Option Value) (x : Str) (st : Stmt) (ps : List Str) : Prop := ∃ f fd, Fun K x x st f fd ∧ mg x = some (.ref f) ∧ BA fd ps
theorem defT_mk {K : PySem.W.Frag} {h : Heap} {mg : Str → Option Value} {x : Str} {st : Stmt} {ps : List Str} {f : Addr} {od an : Option Addr} {sl : Array (Option Value)} {oc kV dc pm cd ct : Value} (X : K.In h) (G : h.Ns mainGlobals mg)
    (a : PySem.W.nsIn K mainGlobals x = some (some (.ref f))) (l : K.lookup f = some ⟨oc, od, .func (PySem.W.fnOf x x (defArgs st) (defBody st) (defScope st) .none kV dc pm an cd ct), sl⟩) (c : PySem.W.codeIn K cd x = true) (k : PySem.W.keepIn K (.ref f) = true)
    (b : ∀ (kV doc pm : Value) (an : Option Addr) (cdv ct : Value) (us : List Value), us.length = ps.length → bindArgs (PySem.W.fnOf x x (defArgs st) (defBody st) (defScope st) .none kV doc pm an cdv ct) ⟨us, []⟩ = pure (ps.zip us)) : DefT K mg x st ps :=
  ⟨f, _, fun_mk l c k, PySem.W.mg_of X G a, b kV dc pm an cd ct⟩
theorem Ok.mono {P : Program} {w : World} {K : PySem.W.Frag} {mg : Str → Option Value} {base : Heap} {x : Str} {lv lv' : Nat} {ps : List Str} {C : DC} (h : Ok P w K mg base x lv ps C) (l : lv ≤ lv') : Ok P w K mg base x lv' ps C := by
  obtain ⟨f, fd, a, b, c, d⟩ := h
  exact ⟨f, fd, a, b, c, d.mono l⟩
/-- a weaker worth -/
theorem Ok.imp {P : Program} {w : World} {K : PySem.W.Frag} {mg : Str → Option Value} {base : Heap} {x : Str} {lv : Nat} {ps : List Str} {C C' : DC} (h : Ok P w K mg base x lv ps C) (i : ∀ ds m Φ Ψ, C' ds m Φ Ψ → C ds m Φ Ψ) : Ok P w K mg base x lv ps C' := by
  obtain ⟨f, fd, a, b, c, d⟩ := h
  exact ⟨f, fd, a, b, c, d.imp fun vs H Q E ⟨z, w, ds, m, Φ, Ψ, q1, q2, q3, q4, q5⟩ => ⟨z, w, ds, m, Φ, Ψ, q1, q2, q3, q4, i _ _ _ _ q5⟩⟩
section
variable {X : Cx} {E : WX} {pos p : Pos} {e : Expr} {es : List Expr} {Ws : DA} {x : Str} {k : Nat} {ps : List Str} {C : DC}
theorem je_callO (G : Ok X.prog X.w X.K X.mg X.base x k ps C) (tk : Takes X E) (hr : Room k X.A) (hg : Gl X x) (ha : JA X E (e :: es) Ws) (n : Nat) (hn : ps.length = n := by rfl) (hdb : (x == ("__debug__" : Str)) = false := by decide)
    (he : starEach (e :: es) X.env = (false, eval e X.env) :: starEach es X.env := by rfl) (hpl : (backTo pos (starEach es X.env)).any (·.1) = false := by rfl) : JE X E (.Call (.Name x p) (e :: es) [] pos) (dCall n C Ws) := by
  subst hn
  obtain ⟨f, fd, hm, kp, b, F⟩ := G
  exact je_call tk F hr hg hm kp (Binds.all b) ha hdb he hpl
end
/-- the law's own worth -/
def CLaw (C : List Int → MM → (D → MM → Prop) → Prop) : DC := fun ds m Φ _ => ∃ ns, ds = [.rol (ns.map D.int)] ∧ C ns m Φ
def ClawT : List Int → MM → (D → MM → Prop) → Prop := fun ns m Φ => ns.length ≤ 63 ∧ m = ⟨[], 0⟩ ∧ ∀ m', Φ (.bl true) m'
theorem repAll_ints {K : PySem.W.Frag} {w : Wd} : ∀ (ns : List Int), RepAll K w (ns.map D.int) (ns.map V.int)
  | [] => rfl
  | n :: ns => ⟨.int n, _, rfl, rfl, repAll_ints ns⟩
theorem law_sp {K : PySem.W.Frag} {H : Hp} {a : Addr} {ns : List Int} (hl : ns.length ≤ 63) (hS : SqL K H a (ns.map V.int)) : spOf K 1 (CLaw ClawT) [.ref a] H (fun v _ => v = .bl true) fun _ _ _ => False := by
  refine ⟨rfl, ⟨H, [], none⟩, [.rol (ns.map D.int)], ⟨[], 0⟩, fun d _ => d = .bl true, fun _ _ _ => False, ?_, ?_, ?_, ?_, ns, rfl, hl, rfl, fun _ => rfl⟩
  · exact ⟨fun _ _ h => h, rfl, List.nodup_nil, fun k a o e => by simp at e, fun k a o e => by simp at e, (fun _ S e => nomatch e), ⟨fun _ => rfl, fun e => nomatch e⟩⟩
  · exact ⟨_, [], rfl, ⟨a, _, rfl, hS, repAll_ints ns⟩, rfl⟩
  · intro d m' w' H' v l h r q
    subst q
    exact r
  · intro _ _ _ _ _ _ _ _ _ _ _ q
    exact q.elim
theorem cx_false {P : Program} {w : World} {H : Hp} {s : Shared} {e : Value} {s' : Shared} (h : L2.CX P w [] H s (fun _ _ _ => False) e s') : False := by
  obtain ⟨_, _, _, _, _, _, _, _, _, _, _, _, z⟩ := h
  exact z.elim

/-! ### reasoning -/
/-- over the items of a list of anything -/
theorem forW_map {α : Type} {inj : α → D} {g : DG} {body : DS} {N : DN} {Ψ : XS} (I : List α → Env → MM → Prop) (hs : ∀ d r (k : Env → MM → Prop), (∀ ρ m, I r ρ m → k ρ m) → ∀ ρ m, I (d :: r) ρ m → g (inj d) ρ m (fun ρ1 m1 => body { N with nx := k, ct := k, bk := N.nx } Ψ ρ1 m1))
    (hd : ∀ ρ m, I [] ρ m → N.nx ρ m) : ∀ (ds : List α) (ρ : Env) (m : MM), I ds ρ m → forW g body N Ψ (ds.map inj) ρ m
  | [], ρ, m, h => hd ρ m h
  | d :: r, ρ, m, h => hs d r _ (fun ρ m => forW_map I hs hd r ρ m) ρ m h
/-- over a range: I at the number of turns done -/
theorem forW_rng {lo : Int} {n : Nat} {g : DG} {body : DS} {N : DN} {Ψ : XS} (I : Nat → Env → MM → Prop) (hs : ∀ i (k : Env → MM → Prop), i < n → (∀ ρ m, I (i + 1) ρ m → k ρ m) → ∀ ρ m, I i ρ m → g (.int (lo + (i : Nat))) ρ m (fun ρ1 m1 => body { N with nx := k, ct := k, bk := N.nx } Ψ ρ1 m1))
    (hd : ∀ ρ m, I n ρ m → N.nx ρ m) {ρ : Env} {m : MM} (h : I 0 ρ m) : forW g body N Ψ (rngD lo n) ρ m := by
  have key : ∀ (k i : Nat), i + k = n → ∀ ρ m, I i ρ m → forW g body N Ψ ((List.range' i k).map fun (j : Nat) => D.int (lo + (j : Nat))) ρ m := by
    intro k
    induction k with
    | zero =>
      intro i e ρ m h
      have e : i = n := by omega
      subst e
      exact hd ρ m h
    | succ k ih =>
      intro i e ρ m h
      rw [List.range'_succ]
      exact hs i _ (by omega) (fun ρ m h => ih (i + 1) (by omega) ρ m h) ρ m h
  unfold rngD
  rw [List.range_eq_range']
  exact key n 0 (by omega) ρ m h
inductive All2 {α β : Type} (R : α → β → Prop) : List α → List β → Prop where
  | nil : All2 R [] []
  | cons {a b as bs} : R a b → All2 R as bs → All2 R (a :: as) (b :: bs)
theorem All2.length {α β : Type} {R : α → β → Prop} {as : List α} {bs : List β} (h : All2 R as bs) : as.length = bs.length := by
  induction h with
  | nil => rfl
  | cons _ _ ih => rw [List.length_cons, List.length_cons, ih]
/-- a comprehension whose items are some y with R x y -/
theorem lcW_any {α β : Type} {inj : α → D} {out : β → D} {g : DG} {te : DE} {ρ : Env} {Φ : D → MM → Prop} (R : α → β → Prop) (m : MM)
    (hg : ∀ x (m' : MM) (Θ : D → MM → Prop), m'.s = m.s → (∀ y, R x y → Θ (out y) m') → g (inj x) ρ m' (fun ρ1 m1 => m1 = m' ∧ te ρ1 m' Θ XF)) (hc : ∀ y, clD m.M.length (out y) = true) :
    ∀ (xs : List α) (acc : List D), acc.length + xs.length ≤ LIM → (∀ ys, All2 R xs ys → Φ (.lst (acc ++ ys.map out)) m) → lcW g dYes te ρ Φ (xs.map inj) acc m
  | [], acc, _, h => by
    have z := h [] .nil
    rw [List.map_nil, List.append_nil] at z
    exact z
  | x :: xs, acc, hl, h => by
    rw [List.length_cons] at hl
    have z := hg x (m.push (.lst acc)) (fun y m3 => m3 = m.push (.lst acc) ∧ acc.length < LIM ∧ clD m.M.length y = true ∧ lcW g dYes te ρ Φ (xs.map inj) (acc ++ [y]) m) rfl (fun y hy => ⟨rfl, by omega, hc y, lcW_any R m hg hc xs (acc ++ [out y]) (by rw [List.length_append, List.length_singleton]; omega) fun ys hys => by
      have q := h (y :: ys) (.cons hy hys)
      rw [List.map_cons] at q
      rw [List.append_assoc]
      exact q⟩)
    show g (inj x) ρ _ _
    have key : (fun (ρ1 : Env) (m1 : MM) => m1 = m.push (.lst acc) ∧ te ρ1 (m.push (.lst acc)) (fun y m3 => m3 = m.push (.lst acc) ∧ acc.length < LIM ∧ clD m.M.length y = true ∧ lcW g dYes te ρ Φ (xs.map inj) (acc ++ [y]) m) XF)
        = (fun ρ1 m1 => m1 = m.push (.lst acc) ∧ dYes ρ1 (m.push (.lst acc)) (fun b m2 => m2 = m.push (.lst acc) ∧ if b = true then te ρ1 (m.push (.lst acc)) (fun y m3 => m3 = m.push (.lst acc) ∧ acc.length < LIM ∧ clD m.M.length y = true ∧ lcW g dYes te ρ Φ (xs.map inj) (acc ++ [y]) m) XF
          else lcW g dYes te ρ Φ (xs.map inj) acc m) XF) := by
      funext ρ1 m1
      unfold dYes
      simp
    rw [key] at z
    exact z
theorem All2.fn {α β : Type} {f : α → β} : ∀ {as : List α} {bs : List β}, All2 (fun a b => b = f a) as bs → bs = as.map f
  | _, _, .nil => rfl
  | _, _, .cons e h => by rw [e, h.fn]; rfl
/-- a comprehension of a function's values -/
theorem lcW_fn {α β : Type} {inj : α → D} {out : β → D} {g : DG} {te : DE} {ρ : Env} {Φ : D → MM → Prop} (f : α → β) (m : MM) (xs : List α)
    (hg : ∀ x ∈ xs, ∀ (m' : MM) (Θ : D → MM → Prop), Θ (out (f x)) m' → g (inj x) ρ m' (fun ρ1 m1 => m1 = m' ∧ te ρ1 m' Θ XF)) (hc : ∀ y, clD m.M.length (out y) = true) (hl : xs.length ≤ LIM) (h : Φ (.lst ((xs.map f).map out)) m) :
    lcW g dYes te ρ Φ (xs.map inj) [] m := by
  have key : ∀ (ys : List α), (∀ x ∈ ys, x ∈ xs) → ∀ (acc : List D), acc.length + ys.length ≤ LIM → Φ (.lst (acc ++ (ys.map f).map out)) m → lcW g dYes te ρ Φ (ys.map inj) acc m := by
    intro ys
    induction ys with
    | nil => intro _ acc _ h; rw [List.map_nil, List.map_nil, List.append_nil] at h; exact h
    | cons x ys ih =>
      intro hx acc hl h
      rw [List.length_cons] at hl
      have z := hg x (hx x List.mem_cons_self) (m.push (.lst acc)) (fun y m3 => m3 = m.push (.lst acc) ∧ acc.length < LIM ∧ clD m.M.length y = true ∧ lcW g dYes te ρ Φ (ys.map inj) (acc ++ [y]) m) ⟨rfl, by omega, hc _, ih (fun y hy => hx y (List.mem_cons_of_mem _ hy)) (acc ++ [out (f x)]) (by rw [List.length_append, List.length_singleton]; omega) (by
        rw [List.map_cons, List.map_cons] at h
        rw [List.append_assoc]
        exact h)⟩
      have key : (fun (ρ1 : Env) (m1 : MM) => m1 = m.push (.lst acc) ∧ te ρ1 (m.push (.lst acc)) (fun y m3 => m3 = m.push (.lst acc) ∧ acc.length < LIM ∧ clD m.M.length y = true ∧ lcW g dYes te ρ Φ (ys.map inj) (acc ++ [y]) m) XF)
          = (fun ρ1 m1 => m1 = m.push (.lst acc) ∧ dYes ρ1 (m.push (.lst acc)) (fun b m2 => m2 = m.push (.lst acc) ∧ if b = true then te ρ1 (m.push (.lst acc)) (fun y m3 => m3 = m.push (.lst acc) ∧ acc.length < LIM ∧ clD m.M.length y = true ∧ lcW g dYes te ρ Φ (ys.map inj) (acc ++ [y]) m) XF
            else lcW g dYes te ρ Φ (ys.map inj) acc m) XF) := by
        funext ρ1 m1
        unfold dYes
        simp
      rw [key] at z
      exact z
  exact key xs (fun x h => h) [] (by rw [List.length_nil]; omega) (by rw [List.nil_append]; exact h)
theorem rngD0 {n : Nat} : rngD 0 n = (List.range n).map fun i : Nat => D.int (i : Nat) := by
  unfold rngD
  simp only [Int.zero_add]
/-- over range(n) -/
theorem forW_nat {n : Nat} {g : DG} {body : DS} {N : DN} {Ψ : XS} (I : Nat → Env → MM → Prop) (hs : ∀ i (k : Env → MM → Prop), i < n → (∀ ρ m, I (i + 1) ρ m → k ρ m) → ∀ ρ m, I i ρ m → g (.int (i : Nat)) ρ m (fun ρ1 m1 => body { N with nx := k, ct := k, bk := N.nx } Ψ ρ1 m1))
    (hd : ∀ ρ m, I n ρ m → N.nx ρ m) {ρ : Env} {m : MM} (h : I 0 ρ m) : forW g body N Ψ ((List.range n).map fun i : Nat => D.int (i : Nat)) ρ m := by
  rw [← rngD0]
  exact forW_rng I (fun i k hi hk ρ m h => by rw [Int.zero_add]; exact hs i k hi hk ρ m h) hd h
theorem clAll_ints {n : Nat} : ∀ (xs : List Int), clAll n (xs.map D.int) = true
  | [] => rfl
  | x :: xs => by
    show (true && clAll n (xs.map D.int)) = true
    rw [clAll_ints xs]; rfl
theorem bt_len : bootBuiltins "len" = some (.builtin "len") := by decide +kernel
theorem bt_abs : bootBuiltins "abs" = some (.builtin "abs") := by decide +kernel
theorem bt_sum : bootBuiltins "sum" = some (.builtin "sum") := by decide +kernel
theorem bt_repr : bootBuiltins "repr" = some (.builtin "repr") := by decide +kernel
theorem bt_all : bootBuiltins "all" = some (.builtin "all") := by decide +kernel
theorem bt_isinstance : bootBuiltins "isinstance" = some (.builtin "isinstance") := by decide +kernel
theorem bt_int : bootBuiltins "int" = some (.type "int") := by decide +kernel
theorem bt_list : bootBuiltins "list" = some (.type "list") := by decide +kernel
theorem bt_tuple : bootBuiltins "tuple" = some (.type "tuple") := by decide +kernel
end Dl

namespace Dl
open PySem L2 PyProof.Rows

/-! ### further walks -/
section
variable {X : Cx} {E : WX} {a b c : Expr} {Ws : DA} {pos p tpos : Pos} {elts : List Expr} {kk : Nat}
theorem HRep.newTup {K : PySem.W.Frag} {w : Wd} {m : MM} {H : Hp} {T : Addr} {ds : List D} {xs : List V} (h : HRep K w m H) (hT : H T = none) (r : RepAll K w ds xs) : ∃ w', w.le w' ∧ HRep K w' m (upd H T (.tup xs)) ∧ Rep K w' (.tup ds) (.ref T) :=
  ⟨w.put T (.tup xs), Wd.le_put (h.nof hT), h.put hT, rep_put_tup h hT r⟩
def enumD : Nat → List D → List D
  | _, [] => []
  | i, d :: ds => .tup [.int (i : Nat), d] :: enumD (i + 1) ds
theorem enumD_len : ∀ (ds : List D) (i : Nat), (enumD i ds).length = ds.length
  | [], _ => rfl
  | d :: ds, i => by
    show (enumD (i + 1) ds).length + 1 = ds.length + 1
    rw [enumD_len ds]
theorem enumD_get : ∀ (ds : List D) (i j : Nat) (d : D), (enumD i ds)[j]? = some d → ∃ x, ds[j]? = some x ∧ d = .tup [.int ((i + j : Nat) : Int), x]
  | [], _, _, _, h => by simp [enumD] at h
  | x :: ds, i, 0, d, h => by
    have h : some (D.tup [.int (i : Nat), x]) = some d := h
    cases h
    exact ⟨x, rfl, rfl⟩
  | x :: ds, i, j + 1, d, h => by
    have h : (enumD (i + 1) ds)[j]? = some d := h
    obtain ⟨y, e, rfl⟩ := enumD_get ds (i + 1) j d h
    exact ⟨y, e, by rw [show i + 1 + j = i + (j + 1) by omega]⟩
def diEnumerate (r : DA) : DI := fun ρ m Φ Ψ => r ρ m (fun ds m1 => match ds with
  | [d] => match asF d with
    | some xs => Φ (enumD 0 xs) m1
    | none => False
  | _ => False) Ψ
theorem wlk_enum {K : PySem.W.Frag} {w : Wd} {a : Addr} {xs : List V} {ds : List D} (q : SqL K w.F a xs) (r : RepAll K w ds xs) : Wlk K w (Ite K a) (enumD 0 ds) where
  go := fun w1 m H i d l h e => by
    obtain ⟨y, e9, _⟩ := enumD_get _ _ _ _ e
    obtain ⟨v, e1, _⟩ := r.get e9
    exact ⟨xs, v, sql_mono (fun a o z => h.ext a o (l.F a o z)) q, e1⟩
  stop := fun w1 m H l h => ⟨xs, sql_mono (fun a o z => h.ext a o (l.F a o z)) q, Nat.le_of_eq (by rw [enumD_len]; exact r.length)⟩
  yld := fun w1 m H i d x H' l h e y => by
    obtain ⟨T, y, rfl, hT, rfl, hy⟩ := y
    obtain ⟨z, e9, rfl⟩ := enumD_get _ _ _ _ e
    obtain ⟨v, e1, rv⟩ := r.get e9
    have z2 := hy xs (sql_mono (fun a o z => h.ext a o (l.F a o z)) q)
    rw [e1] at z2; cases z2
    exact h.newTup hT ⟨_, _, rfl, by rw [Nat.zero_add]; rfl, _, _, rfl, Rep.mono l _ _ rv, rfl⟩
theorem ji_enumerate (hg : Gl X "enumerate") (hm : X.mg "enumerate" = none) (ha : JA X E [a] Ws) (hs : starEach [a] X.env = [(false, eval a X.env)] := by rfl) : JI X E (.Tuple elts kk tpos) (.Call (.Name "enumerate" p) [a] [] pos) (diEnumerate Ws) :=
  PI.imp (pi_enum hg hm ha hs) fun σ H R ⟨w, ρ, m, Ψ, Φ, a, n, h⟩ => by
  refine ⟨w, ρ, m, Ψ, _, a, fun ds m1 w1 H1 vs l1 h1 r1 q1 => ?_, h⟩
  split at q1
  · obtain ⟨v, rfl, rv⟩ := rep1 r1
    split at q1
    · rename_i e
      obtain ⟨a, xs, rfl, q, r⟩ := asF_ok e rv
      exact ⟨a, xs, rfl, sql_mono h1.ext q, n _ m1 w1 H1 _ l1 h1 (wlk_enum q r) q1⟩
    · exact q1.elim
  · exact q1.elim
def zipD : List D → List D → List D
  | x :: xs, y :: ys => .tup [x, y] :: zipD xs ys
  | _, _ => []
def diZip (r : DA) : DI := fun ρ m Φ Ψ => r ρ m (fun ds m1 => match ds with
  | [d, e] => match asF d, asF e with
    | some xs, some ys => Φ (zipD xs ys) m1
    | _, _ => False
  | _ => False) Ψ
def diReversed (r : DA) : DI := fun ρ m Φ Ψ => r ρ m (fun ds m1 => match ds with
  | [d] => match asF d with
    | some xs => Φ xs.reverse m1
    | none => False
  | _ => False) Ψ
theorem wlk_rev {K : PySem.W.Frag} {w : Wd} {a : Addr} {xs : List V} {ds : List D} (q : SqL K w.F a xs) (r : RepAll K w ds xs) : Wlk K w (Itv K a xs.length) ds.reverse where
  go := fun w1 m H i d l h e => by
    have hi := (List.getElem?_eq_some_iff.mp e).1
    rw [List.length_reverse, ← r.length] at hi
    have e2 : xs[xs.length - 1 - i]? = some xs[xs.length - 1 - i] := List.getElem?_eq_getElem (by omega)
    exact ⟨hi, xs, _, sql_mono (fun a o z => h.ext a o (l.F a o z)) q, e2⟩
  stop := fun w1 m H l h => by show xs.length ≤ ds.reverse.length; rw [List.length_reverse, r.length]; exact Nat.le_refl _
  yld := fun w1 m H i d x H' l h e y => by
    obtain ⟨rfl, hy⟩ := y
    have hi := (List.getElem?_eq_some_iff.mp e).1
    rw [List.length_reverse] at hi
    rw [List.getElem?_reverse hi] at e
    obtain ⟨v, f1, rv⟩ := r.get e
    have z1 := hy xs (sql_mono (fun a o z => h.ext a o (l.F a o z)) q)
    rw [r.length, f1] at z1; cases z1
    exact ⟨w1, .refl w1, h, Rep.mono l _ _ rv⟩
theorem ji_reversed {tg : Expr} (hg : Gl X "reversed") (hm : X.mg "reversed" = none) (ha : JA X E [a] Ws) (hs : starEach [a] X.env = [(false, eval a X.env)] := by rfl) : JI X E tg (.Call (.Name "reversed" p) [a] [] pos) (diReversed Ws) :=
  PI.imp (pi_reversed hg hm ha hs) fun σ H R ⟨w, ρ, m, Ψ, Φ, a, n, h⟩ => by
  refine ⟨w, ρ, m, Ψ, _, a, fun ds m1 w1 H1 vs l1 h1 r1 q1 => ?_, h⟩
  split at q1
  · obtain ⟨v, rfl, rv⟩ := rep1 r1
    split at q1
    · rename_i e
      obtain ⟨a, xs, rfl, q, r⟩ := asF_ok e rv
      exact ⟨a, xs, rfl, sql_mono h1.ext q, n _ m1 w1 H1 _ l1 h1 (wlk_rev q r) q1⟩
    · exact q1.elim
  · exact q1.elim
end

/-! ### a comprehension whose list changes later -/
def lcWM (g : DG) (tt : DT) (te : DE) (ρ : Env) (Φ : D → MM → Prop) : List D → List D → MM → Prop
  | [], acc, m => Φ (.hnd m.M.length) (m.push (.lst acc))
  | d :: ds, acc, m => g d ρ (m.push (.lst acc)) fun ρ1 m1 => m1 = m.push (.lst acc) ∧ tt ρ1 (m.push (.lst acc)) (fun b m2 => m2 = m.push (.lst acc) ∧ if b = true then
      te ρ1 (m.push (.lst acc)) (fun y m3 => m3 = m.push (.lst acc) ∧ acc.length < LIM ∧ lcWM g tt te ρ Φ ds (acc ++ [y]) m) XF
    else lcWM g tt te ρ Φ ds acc m) XF
def dLcM (it : DI) (g : DG) (tt : DT) (te : DE) (vs : List Nat) : DE := fun ρ m Φ Ψ => it ρ m (fun ds m1 => lcWM g tt te (wipeD ρ vs) Φ ds [] m1) Ψ
section
variable {X : Cx} {E : WX}
end

/-! ### the drawing state, opened and closed -/
section
variable {K : PySem.W.Frag} {w : Wd} {m : MM} {H : Hp} {p A c : Addr}
theorem HRep.adopt {o : MO} (h : HRep K w m H) (h0 : m.s ≠ 1) (hp : p ∉ w.th) (hF : w.F p = none) (ob : ORep K (w.add p) H p o) : HRep K (w.add p) (m.push o) H where
  ext := h.ext
  len := by show (w.th ++ [p]).length = (m.M ++ [o]).length; rw [List.length_append, List.length_append, h.len]; rfl
  nd := by
    show (w.th ++ [p]).Nodup
    rw [List.nodup_append]
    refine ⟨h.nd, by simp, fun a ha b hb e => ?_⟩
    have e2 : b = p := by simpa using hb
    subst e2; subst e
    exact hp ha
  obj := fun k a o' q1 q2 => by
    have q1 : (w.th ++ [p])[k]? = some a := q1
    have q2 : (m.M ++ [o])[k]? = some o' := q2
    rcases Nat.lt_or_ge k w.th.length with hk | hk
    · rw [List.getElem?_append_left hk] at q1
      rw [List.getElem?_append_left (by rw [← h.len]; exact hk)] at q2
      exact (h.obj k a o' q1 q2).mono Wd.le_add rfl
    · rw [List.getElem?_append_right hk] at q1
      rw [List.getElem?_append_right (by rw [← h.len]; exact hk)] at q2
      have hk2 : k = w.th.length := by
        have z := (List.getElem?_eq_some_iff.mp q1).1
        simp at z; omega
      subst hk2
      rw [Nat.sub_self] at q1
      rw [h.len, Nat.sub_self] at q2
      simp at q1 q2
      subst q1; subst q2
      exact ob
  thF := fun k a o' q1 q2 q3 => by
    have q1 : (w.th ++ [p])[k]? = some a := q1
    have q2 : (m.M ++ [o])[k]? = some o' := q2
    show w.F a = none
    rcases Nat.lt_or_ge k w.th.length with hk | hk
    · rw [List.getElem?_append_left hk] at q1
      rw [List.getElem?_append_left (by rw [← h.len]; exact hk)] at q2
      exact h.thF k a o' q1 q2 q3
    · rw [List.getElem?_append_right hk] at q1
      have z : a ∈ [p] := List.mem_of_getElem? q1
      have e : a = p := by simpa using z
      rw [e]; exact hF
  ls := fun q => absurd q h0
  flag := h.flag
theorem HRep.turn {s : Nat} (h : HRep K w m H) (h1 : s ≠ 1) (h0 : s ≠ 0) : HRep K w ⟨m.M, s⟩ H := ⟨h.ext, h.len, h.nd, h.obj, h.thF, fun q => absurd q h1, ⟨fun q => absurd q h0, fun q => absurd q h1⟩⟩
theorem repAll_intsD {K : PySem.W.Frag} {w : Wd} : ∀ (ns : List Int), RepAll K w (ns.map D.int) (ns.map V.int)
  | [] => rfl
  | n :: ns => ⟨.int n, _, rfl, rfl, repAll_intsD ns⟩
/-- the lists of the drawing state become our own -/
theorem HRep.opened (h : HRep K w m H) (h1 : m.s = 1) (hS : w.S = some ⟨A, c, 0⟩) : ∃ (cells : List Int) (seed : Int),
    HRep K ((w.add c).add A) ⟨m.M ++ [.lst (cells.map D.int)] ++ [.lst [.hnd m.M.length, .int seed]], 2⟩ H ∧ w.le ((w.add c).add A) := by
  obtain ⟨hok, h2⟩ := h.ls h1 _ hS
  obtain ⟨cells, seed, hA, hc⟩ : ∃ (cells : List Int) (seed : Int), H A = some (.lst [.ref c, .int seed]) ∧ H c = some (.lst (cells.map V.int)) := hok
  have fA := h2 A (by show A ∈ [A, c]; simp)
  have fc := h2 c (by show c ∈ [A, c]; simp)
  have ne : A ≠ c := fun z => by
    rw [← z, hA] at hc
    cases cells with
    | nil => cases hc
    | cons x xs => cases hc
  have g1 := (h.turn (s := 2) (by decide) (by decide)).adopt (o := .lst (cells.map D.int)) (by show (2 : Nat) ≠ 1; decide) fc.2.1 fc.1 ⟨_, hc, repAll_intsD cells⟩
  have g2 := g1.adopt (p := A) (o := .lst [.hnd m.M.length, .int seed]) (by show (2 : Nat) ≠ 1; decide) (by show A ∉ w.th ++ [c]; simp only [List.mem_append, List.mem_singleton, not_or]; exact ⟨fA.2.1, ne⟩) fA.1
    ⟨_, hA, .ref c, _, rfl, ⟨c, rfl, Wd.le_add.th _ _ (by show (w.th ++ [c])[m.M.length]? = some c; rw [← h.len, List.getElem?_append_right (Nat.le_refl _)]; simp)⟩, .int seed, [], rfl, rfl, rfl⟩
  exact ⟨cells, seed, g2, Wd.le_add.trans Wd.le_add⟩
/-- .. and are given back -/
theorem HRep.closed {M0 : List MO} {S : LS} (h : HRep K w m H) (hM : m.M.take M0.length = M0) (hS : w.S = some S) (hc : ∀ o ∈ M0, clO M0.length o = true) (hA : ∀ a ∈ S.fp, ∃ j, M0.length ≤ j ∧ w.th[j]? = some a ∧ ∃ o, m.M[j]? = some o ∧ o ≠ .dead) (ok : S.ok H) :
    HRep K (w.cut M0.length) ⟨M0, 1⟩ H := by
  have z := h.cut (n := M0.length) (by rw [hM]; exact hc)
  have e : (m.cut M0.length).M = M0 := hM
  exact {
    ext := z.ext
    len := by have q := z.len; rw [e] at q; exact q
    nd := z.nd
    obj := fun k a o q1 q2 => z.obj k a o q1 (by rw [e]; exact q2)
    thF := fun k a o q1 q2 q3 => z.thF k a o q1 (by rw [e]; exact q2) q3
    ls := fun _ S' q => by
      have q : w.S = some S' := q
      rw [hS] at q; cases q
      refine ⟨ok, fun a ha => ?_⟩
      obtain ⟨j, hj, e1, o, e2, e3⟩ := hA a ha
      refine ⟨h.thF j a o e1 e2 e3, fun hm => ?_, h.thH (List.mem_of_getElem? e1)⟩
      have hm : a ∈ w.th.take M0.length := hm
      obtain ⟨i, hi, ei⟩ := List.mem_iff_getElem.mp hm
      have hi2 := hi
      rw [List.length_take] at hi2
      have e4 : w.th[i]? = some a := by
        have q : (w.th.take M0.length)[i]? = some a := by rw [List.getElem?_eq_getElem hi, ei]
        rw [List.getElem?_take_of_lt (by omega)] at q
        exact q
      obtain ⟨k1, k2⟩ := List.getElem?_eq_some_iff.mp e1
      obtain ⟨j1, j2⟩ := List.getElem?_eq_some_iff.mp e4
      have ij : j = i := (List.getElem_inj h.nd).mp (k2.trans j2.symm)
      omega
    flag := ⟨fun q => (by cases q), fun _ => by show w.S.isSome = true; rw [hS]; rfl⟩ }
end
/-! the two defs of most laws: the state is made; a number is drawn -/
section
variable {P : Program} {w : World} {K : PySem.W.Frag} {mg : Str → Option Value} {base : Heap} {x : Str} {lv : Nat} {ps : List Str}
theorem Ok.impV {C C' : DC} (h : Ok P w K mg base x lv ps C) (i : ∀ vs H Q E, spOf K ps.length C' vs H Q E → spOf K ps.length C vs H Q E) : Ok P w K mg base x lv ps C' := by
  obtain ⟨f, fd, a, b, c, d⟩ := h
  exact ⟨f, fd, a, b, c, d.imp i⟩
end
end Dl

namespace Dl
open PySem L2
theorem moL_lst {ds : List D} : moL (some (.lst ds)) = some ds := rfl
theorem atI_cons0 {α : Type} {a : α} {l : List α} : atI (a :: l) 0 = some a := atI_nat (j := 0) rfl
theorem ixN0 {n : Nat} (h : 0 < n) : ixN n 0 = some 0 := by
  unfold ixN
  rw [if_pos (by decide), if_pos (by omega)]; rfl
local macro_rules | `(tactic| walk_at "dl") => `(tactic| try simp only [dSeq, dSet, dOp, dUn, dVar, dC, dCB, dCons, dNil, dRet, dRetN, dIf, dB, dAnd, dOr, dNot, dDrop, dNext, dMethL, dSetIx, dAndV, dOrV, dNotV, dBlV, dIfE, dLst, dTup, dLstM, dCall, dChain, dAsg, dgName, dgTup, bindD, asT, dFor, diList, diRng1, diRng2, diEnumerate, diZip, diReversed, dLc, dLcM, dYes, wipeD, dAug, dSl, dpN, dpS,
  oI, oI0, oB0, oAdd, oNeg, oEq, oNe, oIx, oIsN, oNotN, isNon, oShl, oApp, oPop, oPopAt, cLen, cInt, cAbs, cSum, cMax2, cMin2, cList, cIsi, tyD, asL, asF, asK, moL_lst, ModC, DivC,
  List.getElem?_cons_zero, List.getElem?_cons_succ, List.set_cons_zero, List.set_cons_succ, List.getElem?_nil, List.length_cons, List.length_nil, List.length_map, Option.map_some, Option.bind_some, Option.isSome_some, if_true, true_and, and_true, MM.push])
theorem mulR {i j : Int} (h0 : 0 ≤ j) (h1 : j ≤ 4294967296) : MulC i j := .inr (.inl ⟨by omega, by omega⟩)
theorem mulL {i j : Int} (h0 : 0 ≤ i) (h1 : i ≤ 4294967296) : MulC i j := .inl ⟨by omega, by omega⟩
/-- an item by an int -/
def gi (xs : List Int) (z : Int) : Int := xs.getD z.toNat 0
theorem ixN_of {n : Nat} {z : Int} (h0 : 0 ≤ z) (h : z < n) : ixN n z = some z.toNat := by
  unfold ixN
  rw [if_pos h0, if_pos h]
theorem atI_gi {xs : List Int} {z : Int} (h0 : 0 ≤ z) (h : z < xs.length) : atI (xs.map D.int) z = some (.int (gi xs z)) := by
  unfold atI
  rw [List.length_map, ixN_of h0 h]
  show (xs.map D.int)[z.toNat]? = _
  have hl : z.toNat < xs.length := by omega
  rw [List.getElem?_map, List.getElem?_eq_getElem hl]
  unfold gi
  rw [List.getD_eq_getElem?_getD, List.getElem?_eq_getElem hl]; rfl
theorem forW_enum {α : Type} {inj : α → D} {g : DG} {body : DS} {N : DN} {Ψ : XS} (I : Nat → List α → Dl.Env → MM → Prop) (hs : ∀ i d r (k : Dl.Env → MM → Prop), (∀ ρ m, I (i + 1) r ρ m → k ρ m) → ∀ ρ m, I i (d :: r) ρ m → g (.tup [.int (i : Nat), inj d]) ρ m (fun ρ1 m1 => body { N with nx := k, ct := k, bk := N.nx } Ψ ρ1 m1))
    (hd : ∀ i ρ m, I i [] ρ m → N.nx ρ m) : ∀ (ds : List α) (i : Nat) (ρ : Dl.Env) (m : MM), I i ds ρ m → forW g body N Ψ (enumD i (ds.map inj)) ρ m
  | [], i, ρ, m, h => hd i ρ m h
  | d :: r, i, ρ, m, h => hs i d r _ (fun ρ m => forW_enum I hs hd r (i + 1) ρ m) ρ m h
end Dl

namespace Dl
/-! ### sums and remainders -/
/-- like mod p -/
def Cg (p a b : Int) : Prop := a % p = b % p
section
variable {p a b c d : Int}
theorem Cg.refl : Cg p a a := rfl
theorem Cg.of_eq (h : a = b) : Cg p a b := by rw [h]; exact .refl
theorem Cg.symm (h : Cg p a b) : Cg p b a := Eq.symm h
theorem Cg.trans (h : Cg p a b) (g : Cg p b c) : Cg p a c := Eq.trans h g
theorem Cg.add (h : Cg p a b) (g : Cg p c d) : Cg p (a + c) (b + d) := by
  unfold Cg at *
  rw [Int.add_emod, h, g, ← Int.add_emod]
theorem Cg.mul (h : Cg p a b) (g : Cg p c d) : Cg p (a * c) (b * d) := by
  unfold Cg at *
  rw [Int.mul_emod, h, g, ← Int.mul_emod]
theorem Cg.neg (h : Cg p a b) : Cg p (-a) (-b) := by
  have z := Cg.mul (Cg.refl (p := p) (a := -1)) h
  rw [← Int.neg_eq_neg_one_mul, ← Int.neg_eq_neg_one_mul] at z
  exact z
theorem Cg.sub (h : Cg p a b) (g : Cg p c d) : Cg p (a - c) (b - d) := by
  rw [Int.sub_eq_add_neg, Int.sub_eq_add_neg]
  exact h.add g.neg
theorem Cg.mod : Cg p (a % p) a := Int.emod_emod_of_dvd _ (Int.dvd_refl _)
end
/-- f 0 + … + f (n-1) -/
def S : Nat → (Nat → Int) → Int
  | 0, _ => 0
  | n + 1, f => S n f + f n
theorem S_cg {p : Int} {f g : Nat → Int} : ∀ (n : Nat), (∀ i < n, Cg p (f i) (g i)) → Cg p (S n f) (S n g)
  | 0, _ => .refl
  | n + 1, h => (S_cg n fun i hi => h i (by omega)).add (h n (by omega))
theorem S_eq {f g : Nat → Int} : ∀ (n : Nat), (∀ i < n, f i = g i) → S n f = S n g
  | 0, _ => rfl
  | n + 1, h => by
    show S n f + f n = S n g + g n
    rw [S_eq n fun i hi => h i (by omega), h n (by omega)]
theorem S_pair {f : Nat → Int} : ∀ (n : Nat), S (2 * n) f = S n fun i => f (2 * i) + f (2 * i + 1)
  | 0 => rfl
  | n + 1 => by
    show S (2 * n) f + f (2 * n) + f (2 * n + 1) = S n _ + (f (2 * n) + f (2 * n + 1))
    rw [S_pair n, Int.add_assoc]
theorem S_head {f : Nat → Int} : ∀ (n : Nat), S (n + 1) f = f 0 + S n fun i => f (i + 1)
  | 0 => by show 0 + f 0 = f 0 + 0; omega
  | n + 1 => by
    show S (n + 1) f + f (n + 1) = f 0 + (S n _ + f (n + 1))
    rw [S_head n, Int.add_assoc]
theorem gi_nat {xs : List Int} {n : Nat} : gi xs (n : Nat) = xs.getD n 0 := by
  unfold gi
  rw [Int.toNat_natCast]
theorem gi_app {xs ys : List Int} {n : Nat} : gi (xs ++ ys) (n : Nat) = if n < xs.length then gi xs (n : Nat) else gi ys ((n - xs.length : Nat) : Int) := by
  rw [gi_nat, gi_nat, gi_nat, List.getD_eq_getElem?_getD, List.getElem?_append]
  split <;> rw [List.getD_eq_getElem?_getD]
theorem gi_map {α : Type} {xs : List α} {f : α → Int} {n : Nat} (h : n < xs.length) : gi (xs.map f) (n : Nat) = f (xs[n]) := by
  rw [gi_nat, List.getD_eq_getElem?_getD, List.getElem?_map, List.getElem?_eq_getElem h]; rfl
theorem gi_mapI {xs : List Int} {f : Int → Int} {n : Nat} (h : n < xs.length) : gi (xs.map f) (n : Nat) = f (gi xs (n : Nat)) := by
  rw [gi_map h, gi_nat, List.getD_eq_getElem?_getD, List.getElem?_eq_getElem h]; rfl
theorem gi_range {f : Nat → Int} {n k : Nat} (h : n < k) : gi ((List.range k).map f) (n : Nat) = f n := by
  rw [gi_map (by rw [List.length_range]; exact h), List.getElem_range]
/-- how near the corner z lies to the point: the first number is the lowest bit -/
def wt : List Int → Nat → Int
  | [], _ => 1
  | x :: r, z => (if z % 2 = 1 then x else 1 - x) * wt r (z / 2)
end Dl

namespace Dl
open PySem L2 PyProof.Rows
/-! ### repr: asked by the law's own def alone, where no repr is under way -/
/-- small enough to be written out: depth at most n, weight at most k -/
structure OkR (n k : Nat) (d : D) : Prop where
  lay : okE n d = true
  shw : (toPy d).showable = true
  lvs : (toPy d).leavesShort 13 = true
  wgt : (toPy d).weight ≤ k
def shownD (d : D) : Str := (toPy d).shown
def isSeq : D → Bool
  | .lst _ => true
  | .rol _ => true
  | .tup _ => true
  | .rot _ => true
  | _ => false
def cRepr : DCB := fun ds m Φ => match ds with
  | [d] => OkR 60 1048576 d ∧ isSeq d = true ∧ Φ (.str (shownD d)) m
  | _ => False
def rRepr (K : PySem.W.Frag) : List V → Hp → VK → Prop := fun xs H Q => ∃ a d, xs = [V.ref a] ∧ Dp K H (.ref a) d ∧ d.canLay0 = true ∧ d.depth ≤ 60 ∧ d.showable = true ∧ d.leavesShort 13 = true ∧ d.weight ≤ 1048576 ∧ Q (.str d.shown) H
theorem cbl_repr {K : PySem.W.Frag} : CbL K (rRepr K) cRepr := fun w m H ds vs Q Φ h r vl q => by
  unfold cRepr at q
  split at q
  · rename_i d
    obtain ⟨ok, hq, q⟩ := q
    obtain ⟨v, rfl, rv⟩ := rep1 r
    have hd := dp_of h d v 60 rv ok.lay
    obtain ⟨c1, c2⟩ := okE_lay d 60 ok.lay
    obtain ⟨a, rfl⟩ : ∃ a, v = V.ref a := by
      cases d with
      | lst ds => obtain ⟨a, xs, e, _⟩ := rv; exact ⟨a, e⟩
      | rol ds => obtain ⟨a, xs, e, _⟩ := rv; exact ⟨a, e⟩
      | tup ds => obtain ⟨a, xs, e, _⟩ := rv; exact ⟨a, e⟩
      | rot ds => obtain ⟨a, xs, e, _⟩ := rv; exact ⟨a, e⟩
      | _ => exact absurd hq Bool.false_ne_true
    exact ⟨a, toPy d, rfl, hd, c1, c2, ok.shw, ok.lvs, ok.wgt, vl.str h q⟩
  · exact q.elim
theorem callR_repr {X : Cx} (hg : X.A.guards = some []) (hu : X.A.units + 100 < cLine) : CallR X (.builtin "repr") (rRepr X.K) := by
  rintro pins s σ H xs us Q I rs ⟨a, d, rfl, hd, c1, c2, c3, c4, c5, q⟩
  cases rs with
  | cons r rs =>
    cases rs
    cases r
    obtain ⟨as, rd⟩ := Dp.reads I d (.ref a) (.ref a) hd rfl
    exact repr_of_reads' rd c3 (PyData.noDict_hsm (PyData.hasDict_of_canLay d c1)) hg (by omega) (fun _ _ e => e) (fun h' u tk hk => ⟨.str d.shown, H, I.kept hk, ⟨u, rfl⟩, q⟩) (PyData.shown_fits (by decide) (by decide) c4 c5)
theorem OkR.int {n k : Nat} {i : Int} (h1 : -1000000000000 < i) (h2 : i < 1000000000000) (hk : 40 ≤ k) : OkR n k (.int i) where
  lay := rfl
  shw := by
    show decide (i.natAbs.log2 < 1920) = true

    by_cases h0 : i.natAbs = 0
    · rw [h0]; decide
    · have z := (Nat.log2_lt h0).mpr (show i.natAbs < 2 ^ 40 by omega)
      exact decide_eq_true (Nat.lt_trans z (by decide))
  lvs := decide_eq_true (PyData.shown_int_le (show i.natAbs < 10 ^ 12 by omega))
  wgt := by
    show (if i == 0 then 0 else i.natAbs.log2 + 1) ≤ k
    split
    · omega
    · have h0 : i.natAbs ≠ 0 := by
        rename_i h
        intro z
        apply h
        have : i = 0 := by omega
        rw [this]; rfl
      have := (Nat.log2_lt h0).mpr (show i.natAbs < 2 ^ 40 by omega)
      omega
theorem OkR.str {n k : Nat} {x : Str} (h : PyData.strOk x = true) (hl : (x.cps.toList.all fun c => decide (c < 16 ^ 8)) = true) (hk : x.cps.size ≤ k) : OkR n k (.str x) := ⟨h, rfl, hl, hk⟩
theorem OkR.bl {n k : Nat} {b : Bool} : OkR n k (.bl b) := ⟨rfl, rfl, rfl, Nat.zero_le _⟩
theorem OkR.non {n k : Nat} : OkR n k .non := ⟨rfl, rfl, rfl, Nat.zero_le _⟩
theorem okRs {n k : Nat} : ∀ {ds : List D}, (∀ d ∈ ds, OkR n k d) → okEs n ds = true ∧ PyData.showableAll (toPys ds) = true ∧ PyData.leavesShortAll 13 (toPys ds) = true ∧ PyData.weightAll (toPys ds) ≤ ds.length * (k + 1)
  | [], _ => ⟨rfl, rfl, rfl, by simp [toPys, PyData.weightAll]⟩
  | d :: ds, h => by
    obtain ⟨a, b, c, e⟩ := h d List.mem_cons_self
    obtain ⟨a2, b2, c2, e2⟩ := okRs fun x hx => h x (List.mem_cons_of_mem _ hx)
    refine ⟨?_, ?_, ?_, ?_⟩
    · show (okE n d && okEs n ds) = true
      rw [a, a2]; rfl
    · show (PyData.showable (toPy d) && PyData.showableAll (toPys ds)) = true
      rw [b, b2]; rfl
    · show (PyData.leavesShort 13 (toPy d) && PyData.leavesShortAll 13 (toPys ds)) = true
      rw [c, c2]; rfl
    · show PyData.weight (toPy d) + 1 + PyData.weightAll (toPys ds) ≤ (ds.length + 1) * (k + 1)
      rw [Nat.add_mul, Nat.one_mul]
      omega
theorem OkR.lst {n k j : Nat} {ds : List D} (h : ∀ d ∈ ds, OkR n k d) (hj : ds.length * (k + 1) ≤ j) : OkR (n + 1) j (.lst ds) := by
  obtain ⟨a, b, c, e⟩ := okRs h
  exact ⟨by show (decide (0 < n + 1) && okEs n ds) = true; rw [a]; simp, b, c, Nat.le_trans e hj⟩
theorem OkR.tup {n k j : Nat} {ds : List D} (h : ∀ d ∈ ds, OkR n k d) (hj : ds.length * (k + 1) ≤ j) : OkR (n + 1) j (.tup ds) := by
  obtain ⟨a, b, c, e⟩ := okRs h
  exact ⟨by show (decide (0 < n + 1) && okEs n ds) = true; rw [a]; simp, b, c, Nat.le_trans e hj⟩
theorem OkR.lstMap {n k j : Nat} {α : Type} {f : α → D} {xs : List α} (h : ∀ x ∈ xs, OkR n k (f x)) (hj : xs.length * (k + 1) ≤ j) : OkR (n + 1) j (.lst (xs.map f)) :=
  .lst (fun d hd => by obtain ⟨x, hx, rfl⟩ := List.mem_map.mp hd; exact h x hx) (by rw [List.length_map]; exact hj)

/-! ### the law's own call, the surroundings known -/
/-- what the law's def promises where it is called from the judge's own place -/
def LawAt (P : Program) (w : World) (K : PySem.W.Frag) (mg : Str → Option Value) (base : Heap) (f : Addr) (fd : FuncData) (ps : List Str) (sp : Sp) : Prop :=
  ∀ (s : Shared) (H : Hp) (args : Args) (us : List Value) (vs : List V) (Q : VK) (E : XK), Env0 P w K mg base callerA [] s H → BindsTo s fd args (ps.zip us) → Vals vs us → sp vs H Q E →
    codeAny (model P w) callerA (.call (.ref f) args) (CR (L2.CX P w) [] P w H s Q E) s
section
variable {P : Program} {w : World} {K : PySem.W.Frag} {mg : Str → Option Value} {base : Heap}
theorem lawAt {x qual : Str} {st : Stmt} {f : Addr} {fd : FuncData} {N ps : List Str} {k : Nat} {sp : Sp} (F : Fun K x qual st f fd) (S : FnScope N ps (defScope st)) (len : ∀ vs H Q E, sp vs H Q E → vs.length = ps.length) (hr : Room (k + 1) callerA)
    (go : ∀ (cdv : Value) (s : Shared) (H : Hp) (vs : List V) (Q : VK) (E : XK), Room k (callerA.deeper (envOfC qual (defScope st) s.heap.objs.size f cdv)) → sp vs H Q E →
      ∃ t, PSs (cxOf (L2.CX P w) P w K mg base N qual (defScope st) f cdv callerA [] s H E) (defBody st) t ∧ t { nx := fun _ H' => Q .non H', rt := Q } (start N vs) H) : LawAt P w K mg base f fd ps sp := by
  intro s H args us vs Q E e0 bnd rs ask
  obtain ⟨oc, od, kV, doc, pm, an, cdv, ct, osl, rfl, found, coded⟩ := F.ex
  have inK : K.In s.heap := PySem.W.Frag.In.keeps e0.mod.kin fun b o e => (e0.bs b o e).1
  have free : s.heap.NoLimit := Heap.NoLimit.keeps e0.mod.nolimit fun b o e => (e0.bs b o e).1
  apply codeAny_call_function hr.depth (inK _ _ found) rfl S.co S.gen rfl (PySem.W.codeRec_of inK coded)
  apply bnd
  apply wpAny_newFunctionEnv_cells S.kind
  · rintro ⟨n, v⟩ hn
    rcases S.par n (List.of_mem_zip hn).1 with q | q
    · exact .inl q
    · exact .inr ⟨q, PySem.W.cellsFrom_some _ _ _ (.inl q)⟩
  · rintro _ rfl s1 inside
    refine ⟨free.keeps inside.toInCall.keep, codeAny_func ?_⟩
    obtain ⟨t, steps, told⟩ := go cdv s H vs Q E (hr.deeper _) ask
    have start1 := inv_start (CX := L2.CX P w) (E := E) S hr.hd e0 (len _ _ _ _ ask) rs inside
    refine wpAny_mono (steps.run [] s1 (L2.start N vs) H _ start1 told) ?_ fun e s' z => z
    intro fl s' z
    cases fl with
    | next =>
      obtain ⟨σ', H', J, q⟩ := z
      exact ⟨V.non, H', J.os, J.bare, J.base, J.hok, rfl, q⟩
    | ret u =>
      obtain ⟨v, σ', H', J, rv, q⟩ := z
      exact ⟨v, H', J.os, J.bare, J.base, J.hok, rv, q⟩
    | brk => exact z.choose_spec.choose_spec.2.elim
    | cont => exact z.choose_spec.choose_spec.2.elim
/-- from the reading on data -/
theorem lawAtD {x qual : Str} {st : Stmt} {f : Addr} {fd : FuncData} {N ps : List Str} {k : Nat} {C : DC} {W : DS} (F : Fun K x qual st f fd) (S : FnScope N ps (defScope st)) (hr : Room (k + 1) callerA)
    (hb : ∀ (cdv : Value) (A : Around) (outer : List PySem.Env) (s : Shared) (H : Hp) (E : XK), A.guards = some [] → Room k (A.deeper (envOfC qual (defScope st) s.heap.objs.size f cdv)) → JSs (cxOf (L2.CX P w) P w K mg base N qual (defScope st) f cdv A outer s H E) (wishE E) (defBody st) W)
    (hC : ∀ ds m Φ Ψ, ds.length = ps.length → C ds m Φ Ψ → W { nx := fun _ m' => Φ .non m', rt := Φ } (fun _ => Ψ) (ds.map some ++ List.replicate (N.length - ds.length) none) m) :
    LawAt P w K mg base f fd ps (spOf K ps.length C) := by
  refine lawAt F S (fun vs H Q E h => h.1) hr fun cdv s H vs Q E hr h => ⟨_, hb cdv callerA [] s H E rfl hr, ?_⟩
  obtain ⟨hl, w0, ds, m, Φ, Ψ, h0, r, vl, xl, c⟩ := h
  refine ⟨w0, _, m, fun _ => Ψ, _, ⟨h0, slots_start r, fun ρ σ w1 l1 _ C fs m' w' H' d xs l a b c q => xl C fs m' w' H' d xs (l1.trans l) a b c q⟩, ?_, hC ds m Φ Ψ (r.length.symm.trans hl) c⟩
  exact ⟨fun ρ m' w' H' σ l h' _ q => vl .non m' w' H' _ l h' rfl q, vl, fun _ _ _ _ _ _ _ _ q => q.elim, fun _ _ _ _ _ _ _ _ q => q.elim⟩
/-- the script's place in the tracked heap: tracked unless it is one of the module's own -/
def scriptH (K : PySem.W.Frag) (a : Addr) (vs : List Value) (ns : List Int) : Hp := fun b => if b = a ∧ K.lookup a = none then some (.frz { cls := .type "list", data := .seq vs.toArray } (.lst (ns.map V.int))) else none
theorem scriptH_some {a b : Addr} {vs : List Value} {ns : List Int} {o : HO} (h : scriptH K a vs ns b = some o) : b = a ∧ K.lookup a = none ∧ o = .frz { cls := .type "list", data := .seq vs.toArray } (.lst (ns.map V.int)) := by
  unfold scriptH at h
  split at h
  · rename_i c
    cases h
    exact ⟨c.1, c.2, rfl⟩
  · cases h
theorem law_start {mb : Str → Option Value} {a : Addr} {s : Shared} {vs : List Value} {ns : List Int} (KX : K.In s.heap) (hns : s.heap.Ns mainGlobals mg) (hb : s.heap.Ns builtinsNs mb) (hbb : ∀ x : Str, x ≠ "__name__" → mb x = bootBuiltins x)
    (free : s.heap.NoLimit) (hg : s.gens = #[]) (ha : s.heap.get? a = some { cls := .type "list", data := .seq vs.toArray }) (hi : IntsAre vs ns) (hl : ns.length ≤ sizeLine) :
    SqL K (scriptH K a vs ns) a (ns.map V.int) ∧ Env0 P w K mg (hidT s.heap (scriptH K a vs ns)) callerA [] s (scriptH K a vs ns) ∧
      ∀ u s', CE [] P w (scriptH K a vs ns) s (fun v _ => v = .bl true) u s' → u = .bool true ∧ OldK s.heap s'.heap ∧ s'.os = s.os ∧ AllBare s'.gens := by
  have told := vals_ints hi
  have many := hi.length
  have objA : HOk P w (scriptH K a vs ns) s.heap := fun b o e => by
    obtain ⟨rfl, _, rfl⟩ := scriptH_some e
    exact ⟨ha, by rw [List.length_map]; exact hl, vs, _, told, ha⟩
  have stays : ∀ {b : Addr} {m : Str → Option Value}, s.heap.Ns b m → (hidT s.heap (scriptH K a vs ns)).Ns b m := fun {b m} n => by
    obtain ⟨o, es, ep, e, d, rest⟩ := n
    refine ⟨o, es, ep, hidT_get e ?_, d, rest⟩
    cases z : scriptH K a vs ns b with
    | none => rfl
    | some t =>
      obtain ⟨rfl, _⟩ := scriptH_some z
      rw [ha] at e
      cases e
      cases d
  refine ⟨?_, ⟨rfl, ⟨?_, stays hns, ⟨mb, stays hb, hbb⟩, ?_⟩, fun b o e => of_hidT e, Nat.le_of_eq (hidT_size _ _), trivial, fun b z => absurd z (by simp [frs]), objA, .of_eq hg⟩, ?_⟩
  · cases z : K.lookup a with
    | none => exact .inl (.inr ⟨_, if_pos ⟨rfl, z⟩⟩)
    | some o =>
      have e := KX a o z
      rw [ha] at e
      cases e
      exact .inr ⟨_, vs.toArray, _, z, rfl, rfl, rfl, by rw [List.size_toArray, many]; exact hl, by simpa using told⟩
  · intro b o e
    refine hidT_get (KX b o e) ?_
    cases z : scriptH K a vs ns b with
    | none => rfl
    | some t =>
      obtain ⟨rfl, z2, _⟩ := scriptH_some z
      rw [z2] at e
      cases e
  · obtain ⟨mc, h1, h2⟩ := free
    exact ⟨mc, stays h1, h2⟩
  · rintro u s' ⟨v, H', os, bare, un, hok', r, rfl⟩
    refine ⟨r, OldK.of_keep fun b o e => ?_, os, bare⟩
    cases z : scriptH K a vs ns b with
    | none => exact un.keep b o e z (fun z => absurd z (by simp [frs])) (by simp)
    | some t =>
      obtain ⟨rfl, _, rfl⟩ := scriptH_some z
      have kept := (hok' b _ (un.frzs b _ _ z)).1
      rw [ha] at e
      cases e
      exact kept
end
/-- the end, from the law's promise at its own place -/
theorem walk_DG {l : PySem.W.OpenLaw} {q : Program} {loose : List Str} {XP : (Str → Option Value) → Heap → Prop} {YP : World → Heap → Prop} {d : DefRec} {K : Params → PySem.W.Frag} {x : Str}
    (hn : l.most = some 63) (hdf : d.params.defaults = []) (hY : ∀ (w : World) (h : Heap), YP w h → (K w.params).In h)
    (F : ∀ (w : World) (mg : Str → Option Value) (fa : Addr) (h : Heap), (K w.params).In h → h.Ns mainGlobals mg → mg d.name = some (.ref fa) → ∃ fd : FuncData, (∀ (s : Shared) (u : Value), BindsTo s fd ⟨[u], []⟩ [(x, u)]) ∧
      ∀ base : Heap, (K w.params).In base → base.Ns mainGlobals mg → LawAt l.prog w (K w.params) mg base fa fd [x] (spOf (K w.params) 1 (CLaw ClawT))) :
    PySem.W.WalkO q loose XP YP l.row.toRowW d [] (fun f vs => PySem.call f vs) := by
  apply Att.attach_call hn hdf
  intro w s₀ s₁ mg mb fa o pm cd doc a vs ns G Y ho hd hcd hmg hobj hints hlen hg
  obtain ⟨fd, bnd, prom⟩ := F w mg fa _ (hY w _ Y) G.T.g hmg
  obtain ⟨sq, env, fin⟩ := law_start (P := l.prog) (w := w) (hY w _ Y) G.T.g G.T.b G.T.builtins G.T.nolimit hg hobj hints (Nat.le_trans hlen (by decide))
  refine codeAny_mono (prom _ env.mod.kin env.mod.glob s₁ _ ⟨[.ref a], []⟩ [.ref a] [.ref a] (fun v _ => v = .bl true) (fun _ _ _ => False) env (bnd s₁ (.ref a)) (.cons rfl .nil) (law_sp hlen sq)) ?_
  intro r s' z
  match r, z with
  | .error e, z => exact (cx_false z).elim
  | .ok (.ret u), z =>
    obtain ⟨rfl, rest⟩ := fin u s' z
    exact ⟨rfl, rest⟩
/-! ### odds and ends -/
/-- a comprehension's scope within another one -/
theorem blkOk_in {X : Cx} {N : List Str} {s : Shared} {H : Hp} {sc scope scope2 : Scope} {C : Addr} {cl : List (Str × Addr)} {fp : List Addr} {own : List (Str × Nat)} (hN : X.N = N) (hs : X.env.scope = sc) (h : BlkOk N (relS scope sc) scope2 own) :
    BlkOk (X.blk s H scope (compEnvC scope cl C X.env) fp).N (X.blk s H scope (compEnvC scope cl C X.env) fp).env.scope scope2 own := by
  subst hN; subst hs
  exact h
theorem room_un {k : Nat} {A : Around} (r : Room k A) : A.units + 100 < cLine := by have := r.un; omega
/-- one statement at a time: what follows is held back -/
theorem dSeq_k {a b : DS} {N : DN} {Ψ : XS} {ρ : Dl.Env} {m : MM} (h : ∀ k : Dl.Env → MM → Prop, k = b N Ψ → a { N with nx := k } Ψ ρ m) : dSeq a b N Ψ ρ m := h _ rfl
def oNeS : DO := fun x y m Φ => match x, y with
  | .str a, .str b => Φ (.bl (!decide (a = b))) m
  | _, _ => False
theorem opl_neS {K : PySem.W.Frag} : OpL K rNe oNeS := fun w m H x y u v Q Φ h r1 r2 vl q => by
  unfold oNeS at q
  split at q
  · cases (show u = V.str _ from r1)
    cases (show v = V.str _ from r2)
    refine ⟨rfl, ?_⟩
    rw [show decide (V.str _ = V.str _) = decide (_ = _) from decide_eq_decide.mpr ⟨fun e => V.str.inj e, fun e => congrArg V.str e⟩]
    exact vl.bl h q
  · exact q.elim
end Dl

namespace Dl
/-! ### primes -/
structure Prim (p : Int) : Prop where
  two : 2 ≤ p
  euc : ∀ a b : Int, p ∣ a * b → p ∣ a ∨ p ∣ b
/-- no number from lo to lo + 2^k - 1 whose square is at most p divides p -/
def noDiv (p : Nat) : Nat → Nat → Bool
  | lo, 0 => (p % lo != 0) || decide (p < lo * lo)
  | lo, k + 1 => noDiv p lo k && noDiv p (lo + 2 ^ k) k
theorem noDiv_ok {p : Nat} : ∀ (k lo : Nat), noDiv p lo k = true → ∀ d, lo ≤ d → d < lo + 2 ^ k → d * d ≤ p → ¬ d ∣ p
  | 0, lo, h, d, h1, h2, h3 => by
    intro h4
    have e : d = lo := by omega
    subst e
    unfold noDiv at h
    have : p % d = 0 := Nat.mod_eq_zero_of_dvd h4
    simp only [this, bne_self_eq_false, Bool.false_or, decide_eq_true_eq] at h
    omega
  | k + 1, lo, h, d, h1, h2, h3 => by
    have h : (noDiv p lo k && noDiv p (lo + 2 ^ k) k) = true := h
    rw [Bool.and_eq_true] at h
    rw [Nat.pow_succ] at h2
    by_cases hd : d < lo + 2 ^ k
    · exact noDiv_ok k lo h.1 d h1 hd h3
    · exact noDiv_ok k (lo + 2 ^ k) h.2 d (by omega) (by omega) h3
theorem prime_nat {p k : Nat} (hp : 2 ≤ p) (hp2 : p < (2 + 2 ^ k) * (2 + 2 ^ k)) (h : noDiv p 2 k = true) : ∀ d, d ∣ p → d = 1 ∨ d = p := by
  intro d hd
  have h0 : 0 < d := Nat.pos_of_dvd_of_pos hd (by omega)
  obtain ⟨e, he⟩ := hd
  by_cases h1 : d = 1
  · exact .inl h1
  by_cases h2 : e = 1
  · exact .inr (by rw [he, h2, Nat.mul_one])
  have e0 : 0 < e := by
    rcases Nat.eq_zero_or_pos e with z | z
    · rw [z, Nat.mul_zero] at he; omega
    · exact z
  have small : ∀ x y : Nat, 2 ≤ x → x ≤ y → p = x * y → False := fun x y hx hxy hxe => by
    have hs : x * x ≤ p := by rw [hxe]; exact Nat.mul_le_mul_left _ hxy
    have hlt : x < 2 + 2 ^ k := by
      rcases Nat.lt_or_ge x (2 + 2 ^ k) with z | z
      · exact z
      · have := Nat.mul_le_mul z z
        omega
    exact noDiv_ok k 2 h x hx hlt hs ⟨y, hxe⟩
  rcases Nat.le_total d e with z | z
  · exact (small d e (by omega) z he).elim
  · exact (small e d (by omega) z (by rw [he, Nat.mul_comm])).elim
theorem prim_of {p : Nat} (hp : 2 ≤ p) (h : ∀ d, d ∣ p → d = 1 ∨ d = p) : Prim (p : Int) := by
  refine ⟨by omega, fun a b hab => ?_⟩
  have hn : p ∣ a.natAbs * b.natAbs := by
    have z := Int.natAbs_dvd_natAbs.mpr hab
    rw [Int.natAbs_mul] at z
    exact z
  rcases h _ (Nat.gcd_dvd_left p a.natAbs) with z | z
  · exact .inr (Int.natAbs_dvd_natAbs.mp (Nat.Coprime.dvd_of_dvd_mul_left z hn))
  · refine .inl (Int.natAbs_dvd_natAbs.mp ?_)
    have g := Nat.gcd_dvd_right p a.natAbs
    rw [z] at g
    exact g
theorem prim_chk {p k : Nat} (h : (decide (2 ≤ p) && decide (p < (2 + 2 ^ k) * (2 + 2 ^ k)) && noDiv p 2 k) = true) : Prim (p : Int) := by
  simp only [Bool.and_eq_true, decide_eq_true_eq] at h
  exact prim_of h.1.1 (prime_nat h.1.1 h.1.2 h.2)
theorem prim_11 : Prim 11 := prim_chk (p := 11) (k := 1) (by decide +kernel)
theorem prim_7 : Prim 7 := prim_chk (p := 7) (k := 1) (by decide +kernel)
theorem prim_5 : Prim 5 := prim_chk (p := 5) (k := 1) (by decide +kernel)
/-! ### remainders by a prime -/
theorem Cg.iff_dvd {p a b : Int} : Cg p a b ↔ p ∣ a - b := Int.emod_eq_emod_iff_emod_sub_eq_zero.trans ⟨Int.dvd_of_emod_eq_zero, Int.emod_eq_zero_of_dvd⟩
theorem Cg.zero_iff {p a : Int} : Cg p a 0 ↔ p ∣ a := by
  rw [Cg.iff_dvd, Int.sub_zero]
theorem Cg.pow {p a b : Int} (h : Cg p a b) : ∀ n : Nat, Cg p (a ^ n) (b ^ n)
  | 0 => by rw [Int.pow_zero, Int.pow_zero]; exact .refl
  | n + 1 => by
    rw [Int.pow_succ, Int.pow_succ]
    exact (Cg.pow h n).mul h
theorem Prim.cancel {p a b c : Int} (P : Prim p) (h : Cg p (a * b) (a * c)) (ha : ¬ Cg p a 0) : Cg p b c := by
  rw [Cg.iff_dvd, ← Int.mul_sub] at h
  rcases P.euc _ _ h with z | z
  · exact absurd (Cg.zero_iff.mpr z) ha
  · exact Cg.iff_dvd.mpr z
theorem Prim.mul_zero {p a b : Int} (P : Prim p) (h : Cg p (a * b) 0) : Cg p a 0 ∨ Cg p b 0 := by
  rw [Cg.zero_iff, Cg.zero_iff]
  exact P.euc _ _ (Cg.zero_iff.mp h)
theorem Prim.one_ne {p : Int} (P : Prim p) : ¬ Cg p 1 0 := fun h => by
  have := P.two
  have h := Int.le_of_dvd (by decide) (Cg.zero_iff.mp h)
  omega
/-- two numbers near each other -/
theorem near_ne {p i j : Int} (h1 : i ≠ j) (h2 : i - j < p) (h3 : j - i < p) : ¬ Cg p (i - j) 0 := fun h => by
  obtain ⟨c, hc⟩ := Cg.zero_iff.mp h
  rcases Int.lt_trichotomy c 0 with z | z | z
  · have : p * c ≤ p * (-1) := Int.mul_le_mul_of_nonneg_left (by omega) (by omega)
    omega
  · rw [z, Int.mul_zero] at hc; omega
  · have : p * 1 ≤ p * c := Int.mul_le_mul_of_nonneg_left (by omega) (by omega)
    omega

/-! ### the small theorem of Fermat -/
def choose : Nat → Nat → Nat
  | _, 0 => 1
  | 0, _ + 1 => 0
  | n + 1, k + 1 => choose n k + choose n (k + 1)
theorem choose_big : ∀ (n k : Nat), n < k → choose n k = 0
  | 0, k + 1, _ => rfl
  | n + 1, k + 1, h => by
    show choose n k + choose n (k + 1) = 0
    rw [choose_big n k (by omega), choose_big n (k + 1) (by omega)]
theorem choose_self : ∀ n : Nat, choose n n = 1
  | 0 => rfl
  | n + 1 => by
    show choose n n + choose n (n + 1) = 1
    rw [choose_self n, choose_big n (n + 1) (by omega)]
theorem choose_abs : ∀ (n k : Nat), (k + 1) * choose (n + 1) (k + 1) = (n + 1) * choose n k
  | 0, 0 => rfl
  | 0, k + 1 => by
    show (k + 1 + 1) * (choose 0 (k + 1) + choose 0 (k + 1 + 1)) = (0 + 1) * choose 0 (k + 1)
    rw [choose_big 0 (k + 1) (by omega), choose_big 0 (k + 1 + 1) (by omega)]; simp
  | n + 1, 0 => by
    have h := choose_abs n 0
    show (0 + 1) * (choose (n + 1) 0 + choose (n + 1) (0 + 1)) = (n + 1 + 1) * 1
    have e : choose (n + 1) 0 = 1 := by unfold choose; rfl
    have e2 : choose n 0 = 1 := by cases n <;> rfl
    rw [e2] at h
    rw [e]; omega
  | n + 1, k + 1 => by
    have h1 := choose_abs n k
    have h2 := choose_abs n (k + 1)
    show (k + 1 + 1) * (choose (n + 1) (k + 1) + choose (n + 1) (k + 1 + 1)) = (n + 1 + 1) * choose (n + 1) (k + 1)
    have h3 : choose (n + 1) (k + 1) = choose n k + choose n (k + 1) := rfl
    rw [Nat.mul_add, h2]
    have e1 : (k + 1 + 1) * choose (n + 1) (k + 1) = (k + 1) * choose (n + 1) (k + 1) + choose (n + 1) (k + 1) := by rw [Nat.add_mul (k + 1), Nat.one_mul]
    have e2 : (n + 1 + 1) * choose (n + 1) (k + 1) = (n + 1) * choose (n + 1) (k + 1) + choose (n + 1) (k + 1) := by rw [Nat.add_mul (n + 1), Nat.one_mul]
    rw [e1, e2, h1]
    have e3 : (n + 1) * choose (n + 1) (k + 1) = (n + 1) * choose n k + (n + 1) * choose n (k + 1) := by rw [h3, Nat.mul_add]
    omega
theorem S_add {f g : Nat → Int} : ∀ n : Nat, S n (fun i => f i + g i) = S n f + S n g
  | 0 => rfl
  | n + 1 => by
    show S n (fun i => f i + g i) + (f n + g n) = S n f + f n + (S n g + g n)
    rw [S_add n]; omega
theorem S_mul {c : Int} {f : Nat → Int} : ∀ n : Nat, S n (fun i => c * f i) = c * S n f
  | 0 => by show (0 : Int) = c * 0; omega
  | n + 1 => by
    show S n (fun i => c * f i) + c * f n = c * (S n f + f n)
    rw [S_mul n, Int.mul_add]
theorem binom (a : Int) : ∀ n : Nat, (a + 1) ^ n = S (n + 1) fun k => (choose n k : Int) * a ^ k
  | 0 => by
    show (a + 1) ^ 0 = 0 + ((1 : Nat) : Int) * a ^ 0
    rw [Int.pow_zero, Int.pow_zero]; rfl
  | n + 1 => by
    rw [Int.pow_succ, binom a n, Int.mul_add, Int.mul_one, S_head (n + 1)]
    have e0 : ((choose (n + 1) 0 : Nat) : Int) * a ^ 0 = 1 := by
      have : choose (n + 1) 0 = 1 := by unfold choose; rfl
      rw [this, Int.pow_zero]; rfl
    rw [e0]
    have e1 : (S (n + 1) fun k => ((choose (n + 1) (k + 1) : Nat) : Int) * a ^ (k + 1)) = (S (n + 1) fun k => (choose n k : Int) * a ^ (k + 1)) + S (n + 1) fun k => (choose n (k + 1) : Int) * a ^ (k + 1) := by
      rw [← S_add]
      refine S_eq _ fun k _ => ?_
      show (((choose n k + choose n (k + 1) : Nat)) : Int) * a ^ (k + 1) = _
      rw [Int.natCast_add, Int.add_mul]
    have e2 : (S (n + 1) fun k => (choose n k : Int) * a ^ (k + 1)) = (S (n + 1) fun k => (choose n k : Int) * a ^ k) * a := by
      rw [Int.mul_comm _ a, ← S_mul]
      refine S_eq _ fun k _ => ?_
      show _ = a * ((choose n k : Int) * a ^ k)
      rw [Int.pow_succ]
      grind
    have e3 : (S (n + 1) fun k => (choose n (k + 1) : Int) * a ^ (k + 1)) + 1 = S (n + 1) fun k => (choose n k : Int) * a ^ k := by
      show (S n fun k => (choose n (k + 1) : Int) * a ^ (k + 1)) + ((choose n (n + 1) : Nat) : Int) * a ^ (n + 1) + 1 = _
      rw [choose_big n (n + 1) (by omega), S_head n]
      have : ((choose n 0 : Nat) : Int) * a ^ 0 = 1 := by
        have : choose n 0 = 1 := by cases n <;> rfl
        rw [this, Int.pow_zero]; rfl
      rw [this]
      show _ + (0 : Int) * a ^ (n + 1) + 1 = _
      omega
    rw [e1, e2]
    omega
theorem Prim.choose {p k : Nat} (P : Prim (p : Int)) (h0 : 0 < k) (h1 : k < p) : Cg (p : Int) (choose p k : Int) 0 := by
  obtain ⟨k, rfl⟩ : ∃ j, k = j + 1 := ⟨k - 1, by omega⟩
  obtain ⟨q, rfl⟩ : ∃ q, p = q + 1 := ⟨p - 1, by omega⟩
  have e := choose_abs q k
  have d : ((q + 1 : Nat) : Int) ∣ ((k + 1 : Nat) : Int) * (Dl.choose (q + 1) (k + 1) : Int) := by
    rw [← Int.natCast_mul, e, Int.natCast_mul]
    exact Int.dvd_mul_right _ _
  rcases P.euc _ _ d with z | z
  · have := Int.le_of_dvd (by omega) z
    omega
  · exact Cg.zero_iff.mpr z
theorem fermat_succ {p : Nat} (P : Prim (p : Int)) (a : Int) : Cg (p : Int) ((a + 1) ^ p) (a ^ p + 1) := by
  rw [binom]
  obtain ⟨q, rfl⟩ : ∃ q, p = q + 1 := ⟨p - 1, by have := P.two; omega⟩
  rw [S_head]
  show Cg _ (((Dl.choose (q + 1) 0 : Nat) : Int) * a ^ 0 + ((S q fun k => (Dl.choose (q + 1) (k + 1) : Int) * a ^ (k + 1)) + ((Dl.choose (q + 1) (q + 1) : Nat) : Int) * a ^ (q + 1))) _
  rw [choose_self]
  have e0 : ((Dl.choose (q + 1) 0 : Nat) : Int) * a ^ 0 = 1 := by
    have : Dl.choose (q + 1) 0 = 1 := by unfold Dl.choose; rfl
    rw [this, Int.pow_zero]; rfl
  rw [e0]
  have z : Cg ((q + 1 : Nat) : Int) (S q fun k => (Dl.choose (q + 1) (k + 1) : Int) * a ^ (k + 1)) (S q fun _ => 0) := S_cg q fun k hk => by
    have := (P.choose (k := k + 1) (by omega) (by omega)).mul (Cg.refl (a := a ^ (k + 1)))
    rw [Int.zero_mul] at this
    exact this
  have z0 : ∀ n, S n (fun _ => 0) = 0 := fun n => by
    induction n with
    | zero => rfl
    | succ n ih => show S n _ + 0 = 0; rw [ih]; rfl
  rw [z0] at z
  refine (Cg.add .refl (z.add .refl)).trans (.of_eq ?_)
  show (1 : Int) + (0 + ((1 : Nat) : Int) * a ^ (q + 1)) = _
  omega
theorem fermat_nat {p : Nat} (P : Prim (p : Int)) : ∀ n : Nat, Cg (p : Int) ((n : Int) ^ p) n
  | 0 => by
    have : ((0 : Nat) : Int) ^ p = 0 := by
      obtain ⟨q, rfl⟩ : ∃ q, p = q + 1 := ⟨p - 1, by have := P.two; omega⟩
      rw [Int.pow_succ]
      exact Int.mul_zero _
    rw [this]; exact .refl
  | n + 1 => by
    rw [Int.natCast_add]
    exact (fermat_succ P n).trans ((fermat_nat P n).add .refl)
theorem fermat {p : Nat} (P : Prim (p : Int)) (a : Int) : Cg (p : Int) (a ^ p) a := by
  have hp := P.two
  have h : a % (p : Int) = ((a % (p : Int)).toNat : Int) := (Int.toNat_of_nonneg (Int.emod_nonneg _ (by omega))).symm
  have e : Cg (p : Int) (((a % (p : Int)).toNat : Nat) : Int) a := by
    rw [← h]
    exact .mod
  exact (e.symm.pow p).trans ((fermat_nat P _).trans e)
/-- the inverse by a power -/
theorem fermat_inv {p : Int} (P : Prim p) {a : Int} (h : ¬ Cg p a 0) : Cg p (a ^ (p - 2).toNat * a) 1 := by
  have hp := P.two
  obtain ⟨n, rfl⟩ := Int.eq_ofNat_of_zero_le (show 0 ≤ p by omega)
  have e : ((n : Int) - 2).toNat + 1 + 1 = n := by omega
  have f := fermat P a
  rw [← e, Int.pow_succ, Int.pow_succ] at f
  refine P.cancel (a := a) ?_ h
  rw [Int.mul_one, Int.mul_comm a]
  rw [e] at f
  exact f
end Dl

namespace Dl
/-! ### polynomials by their coefficients -/
def pev : List Int → Int → Int
  | [], _ => 0
  | c :: cs, t => c + t * pev cs t
/-- the values of the ends -/
def syn (a : Int) : List Int → List Int
  | [] => []
  | c :: cs => pev (c :: cs) a :: syn a cs
theorem syn_len (a : Int) : ∀ cs : List Int, (syn a cs).length = cs.length
  | [] => rfl
  | c :: cs => by
    show (syn a cs).length + 1 = cs.length + 1
    rw [syn_len a cs]
theorem syn_div (a t : Int) : ∀ (c : Int) (cs : List Int), pev (c :: cs) t - pev (c :: cs) a = (t - a) * pev (syn a cs) t
  | c, [] => by
    show c + t * 0 - (c + a * 0) = (t - a) * 0
    omega
  | c, d :: ds => by
    have ih := syn_div a t d ds
    show c + t * pev (d :: ds) t - (c + a * pev (d :: ds) a) = (t - a) * (pev (d :: ds) a + t * pev (syn a ds) t)
    have e : t * ((t - a) * pev (syn a ds) t) = t * (pev (d :: ds) t - pev (d :: ds) a) := by rw [ih]
    grind
/-- all numbers of the list are 0 but for multiples of p -/
def Zer (p : Int) (cs : List Int) : Prop := ∀ c ∈ cs, Cg p c 0
theorem Zer.pev {p : Int} {cs : List Int} (h : Zer p cs) (t : Int) : Cg p (pev cs t) 0 := by
  induction cs with
  | nil => exact .refl
  | cons c cs ih =>
    have h1 := (h c List.mem_cons_self).add ((Cg.refl (a := t)).mul (ih fun x hx => h x (List.mem_cons_of_mem _ hx)))
    rw [Int.mul_zero] at h1
    exact h1
theorem Zer.of_syn {p a : Int} : ∀ {cs : List Int}, Zer p (syn a cs) → Zer p cs
  | [], _ => fun _ h => nomatch h
  | c :: cs, h => by
    have ih := Zer.of_syn (cs := cs) fun x hx => h x (List.mem_cons_of_mem _ hx)
    intro x hx
    rcases List.mem_cons.mp hx with rfl | hx
    · have h1 : Cg p (x + a * Dl.pev cs a) 0 := h _ List.mem_cons_self
      have h2 := (Cg.refl (a := a)).mul (ih.pev a)
      rw [Int.mul_zero] at h2
      have h3 := h1.sub h2
      rw [show x + a * Dl.pev cs a - a * Dl.pev cs a = x by omega] at h3
      exact h3
    · exact ih x hx
/-- as many roots as coefficients: nothing is left -/
theorem roots_zero {p : Int} (P : Prim p) : ∀ (xs cs : List Int), xs.Pairwise (fun x y => ¬ Cg p (x - y) 0) → cs.length ≤ xs.length → (∀ x ∈ xs, Cg p (pev cs x) 0) → Zer p cs
  | _, [], _, _, _ => fun _ h => nomatch h
  | [], c :: cs, _, h, _ => by simp at h
  | x :: xs, c :: cs, hd, hl, hr => by
    rw [List.pairwise_cons] at hd
    have hx := hr x List.mem_cons_self
    have hs : Zer p (syn x cs) := roots_zero P xs (syn x cs) hd.2 (by rw [syn_len]; simpa using hl) fun y hy => by
      have h1 := (hr y (List.mem_cons_of_mem _ hy)).sub hx
      rw [syn_div] at h1
      rcases P.mul_zero h1 with z | z
      · have z2 := z.neg
        rw [show -(y - x) = x - y by omega] at z2
        exact absurd z2 (hd.1 y hy)
      · exact z
    have hz := Zer.of_syn hs
    intro y hy
    rcases List.mem_cons.mp hy with rfl | hy
    · have h2 := (Cg.refl (a := x)).mul (hz.pev x)
      rw [Int.mul_zero] at h2
      have h1 : Cg p (y + x * pev cs x) 0 := hx
      have h3 := h1.sub h2
      rw [show y + x * pev cs x - x * pev cs x = y by omega] at h3
      exact h3
    · exact hz y hy
def padd : List Int → List Int → List Int
  | [], ds => ds
  | cs, [] => cs
  | c :: cs, d :: ds => (c + d) :: padd cs ds
theorem padd_pev (t : Int) : ∀ cs ds : List Int, pev (padd cs ds) t = pev cs t + pev ds t
  | [], ds => by
    show pev ds t = 0 + pev ds t
    omega
  | c :: cs, [] => by
    show pev (c :: cs) t = pev (c :: cs) t + 0
    omega
  | c :: cs, d :: ds => by
    show c + d + t * pev (padd cs ds) t = c + t * pev cs t + (d + t * pev ds t)
    rw [padd_pev t cs ds, Int.mul_add]; omega
theorem padd_len : ∀ cs ds : List Int, (padd cs ds).length = max cs.length ds.length
  | [], ds => by simp [padd]
  | c :: cs, [] => by simp [padd]
  | c :: cs, d :: ds => by
    show (padd cs ds).length + 1 = max (cs.length + 1) (ds.length + 1)
    rw [padd_len cs ds]; omega
theorem pmul_pev (a t : Int) : ∀ cs : List Int, pev (cs.map fun c => a * c) t = a * pev cs t
  | [] => by show (0 : Int) = a * 0; omega
  | c :: cs => by
    show a * c + t * pev (cs.map fun c => a * c) t = a * (c + t * pev cs t)
    rw [pmul_pev a t cs, Int.mul_add, ← Int.mul_assoc, ← Int.mul_assoc, Int.mul_comm t a]
/-- f is a polynomial of degree at most n, but for multiples of p -/
def Pol (p : Int) (n : Nat) (f : Int → Int) : Prop := ∃ cs : List Int, cs.length ≤ n + 1 ∧ ∀ t, Cg p (f t) (pev cs t)
section
variable {p : Int} {n m : Nat} {f g : Int → Int}
theorem Pol.const (c : Int) : Pol p n (fun _ => c) := ⟨[c], by simp, fun t => .of_eq (by show c = c + t * 0; omega)⟩
theorem Pol.mono (h : Pol p n f) (l : n ≤ m) : Pol p m f := by
  obtain ⟨cs, h1, h2⟩ := h
  exact ⟨cs, by omega, h2⟩
theorem Pol.congr (h : Pol p n f) (e : ∀ t, Cg p (g t) (f t)) : Pol p n g := by
  obtain ⟨cs, h1, h2⟩ := h
  exact ⟨cs, h1, fun t => (e t).trans (h2 t)⟩
theorem Pol.add (h : Pol p n f) (k : Pol p n g) : Pol p n fun t => f t + g t := by
  obtain ⟨cs, h1, h2⟩ := h
  obtain ⟨ds, k1, k2⟩ := k
  exact ⟨padd cs ds, by rw [padd_len]; omega, fun t => by rw [padd_pev]; exact (h2 t).add (k2 t)⟩
theorem Pol.smul (a : Int) (h : Pol p n f) : Pol p n fun t => a * f t := by
  obtain ⟨cs, h1, h2⟩ := h
  exact ⟨cs.map fun c => a * c, by rw [List.length_map]; exact h1, fun t => by rw [pmul_pev]; exact Cg.mul .refl (h2 t)⟩
theorem Pol.sub (h : Pol p n f) (k : Pol p n g) : Pol p n fun t => f t - g t :=
  (h.add (k.smul (-1))).congr fun t => .of_eq (by omega)
theorem Pol.tmul (h : Pol p n f) : Pol p (n + 1) fun t => t * f t := by
  obtain ⟨cs, h1, h2⟩ := h
  exact ⟨0 :: cs, by simpa using h1, fun t => (Cg.mul .refl (h2 t)).trans (.of_eq (by show t * pev cs t = 0 + t * pev cs t; omega))⟩
theorem Pol.lin (a b : Int) (h : Pol p n f) : Pol p (n + 1) fun t => (a + b * t) * f t :=
  ((h.smul a).mono (Nat.le_succ n) |>.add (h.tmul.smul b)).congr fun t => .of_eq (by rw [Int.add_mul, Int.mul_assoc])
theorem Pol.sum {F : Nat → Int → Int} : ∀ k : Nat, (∀ i < k, Pol p n (F i)) → Pol p n fun t => S k fun i => F i t
  | 0, _ => .const 0
  | k + 1, h => (Pol.sum k fun i hi => h i (by omega)).add (h k (by omega))
theorem Pol.pev (cs : List Int) (h : cs.length ≤ n + 1) : Pol p n (Dl.pev cs) := ⟨cs, h, fun _ => .refl⟩
/-- equal at n + 1 places: equal everywhere -/
theorem Pol.ext (P : Prim p) (h : Pol p n f) (k : Pol p n g) (xs : List Int) (hd : xs.Pairwise (fun x y => ¬ Cg p (x - y) 0)) (hl : n + 1 ≤ xs.length) (e : ∀ x ∈ xs, Cg p (f x) (g x)) (t : Int) : Cg p (f t) (g t) := by
  obtain ⟨cs, h1, h2⟩ := h.sub k
  have z := roots_zero P xs cs hd (by omega) fun x hx => by
    have := (e x hx).sub (Cg.refl (a := g x))
    rw [Int.sub_self] at this
    exact (h2 x).symm.trans this
  have w := ((h2 t).trans (z.pev t)).add (Cg.refl (a := g t))
  rw [show f t - g t + g t = f t by omega, Int.zero_add] at w
  exact w
end
/-- 0, 1, …, n - 1, told apart by p -/
theorem nodes {p : Int} {n : Nat} (h : (n : Int) ≤ p) : ((List.range n).map fun i : Nat => (i : Int)).Pairwise (fun x y => ¬ Cg p (x - y) 0) := by
  rw [List.pairwise_map]
  refine List.Pairwise.imp_of_mem (R := fun a b => a < b) ?_ (List.pairwise_lt_range)
  intro a b ha hb hab
  have ha := List.mem_range.mp ha
  have hb := List.mem_range.mp hb
  exact near_ne (by omega) (by omega) (by omega)
theorem Pol.extN {p : Int} {n : Nat} {f g : Int → Int} (P : Prim p) (hn : ((n + 1 : Nat) : Int) ≤ p) (h : Pol p n f) (k : Pol p n g) (e : ∀ i : Nat, i ≤ n → Cg p (f i) (g i)) (t : Int) : Cg p (f t) (g t) :=
  h.ext P k _ (nodes hn) (by simp) (fun x hx => by
    obtain ⟨i, hi, rfl⟩ := List.mem_map.mp hx
    exact e i (by have := List.mem_range.mp hi; omega)) t
/-! ### Lagrange -/
/-- the product of t - j over all j < n but k -/
def above (k : Nat) (t : Int) : Nat → Int
  | 0 => 1
  | j + 1 => if j = k then above k t j else above k t j * (t - (j : Nat))
theorem above_pol {p : Int} (k : Nat) : ∀ n : Nat, Pol p n (fun t => above k t n) ∧ (k < n → Pol p (n - 1) (fun t => above k t n))
  | 0 => ⟨.const 1, fun h => absurd h (Nat.not_lt_zero _)⟩
  | n + 1 => by
    obtain ⟨h1, h2⟩ := above_pol (p := p) k n
    by_cases hk : n = k
    · have e : ∀ t, above k t (n + 1) = above k t n := fun t => if_pos hk
      refine ⟨(h1.mono (Nat.le_succ n)).congr fun t => .of_eq (e t), fun _ => h1.congr fun t => .of_eq (e t)⟩
    · have e : ∀ t, above k t (n + 1) = above k t n * (t - (n : Nat)) := fun t => if_neg hk
      refine ⟨(h1.lin (-(n : Nat)) 1).congr fun t => .of_eq (by rw [e, Int.mul_comm]; congr 1; omega), fun hkn => ?_⟩
      have h3 := (h2 (by omega)).lin (-(n : Nat)) 1
      rw [show n - 1 + 1 = n + 1 - 1 by omega] at h3
      exact h3.congr fun t => .of_eq (by rw [e, Int.mul_comm]; congr 1; omega)
theorem above_zero {k i : Nat} (hik : i ≠ k) : ∀ n : Nat, i < n → above k (i : Nat) n = 0
  | n + 1, h => by
    unfold above
    by_cases hk : n = k
    · rw [if_pos hk]
      exact above_zero hik n (by omega)
    · rw [if_neg hk]
      by_cases hi : i = n
      · rw [hi, Int.sub_self, Int.mul_zero]
      · rw [above_zero hik n (by omega), Int.zero_mul]
theorem above_ne {p : Int} (P : Prim p) {k : Nat} : ∀ n : Nat, ((n : Nat) : Int) ≤ p → (k : Int) < p → ¬ Cg p (above k (k : Nat) n) 0
  | 0, _, _ => P.one_ne
  | n + 1, h, hk => by
    unfold above
    by_cases e : n = k
    · rw [if_pos e]
      exact above_ne P n (by omega) hk
    · rw [if_neg e]
      intro z
      rcases P.mul_zero z with z | z
      · exact above_ne P n (by omega) hk z
      · exact near_ne (by omega) (by omega) (by omega) z
/-- the polynomial through the values at 0, …, n -/
theorem lagrange {p : Int} (P : Prim p) {n : Nat} (hn : ((n + 1 : Nat) : Int) ≤ p) {f : Int → Int} (h : Pol p n f) (I : Nat → Int) (hI : ∀ k ≤ n, Cg p (above k (k : Nat) (n + 1) * I k) 1) (t : Int) :
    Cg p (S (n + 1) fun k => f (k : Nat) * (above k t (n + 1) * I k)) (f t) := by
  have hg : Pol p n fun t => S (n + 1) fun k => f (k : Nat) * (above k t (n + 1) * I k) := Pol.sum (n + 1) fun k hk =>
    (((above_pol (p := p) k (n + 1)).2 hk).smul (f (k : Nat) * I k)).congr fun t => .of_eq (by rw [Int.mul_assoc, Int.mul_comm (I k)])
  refine Pol.extN P hn hg h (fun i hi => ?_) t
  have key : ∀ m : Nat, m ≤ n + 1 → Cg p (S m fun k => f (k : Nat) * (above k (i : Nat) (n + 1) * I k)) (if i < m then f (i : Nat) else 0) := by
    intro m
    induction m with
    | zero => intro _; exact .refl
    | succ m ih =>
      intro hm
      have ih := ih (by omega)
      show Cg p (S m _ + f (m : Nat) * (above m (i : Nat) (n + 1) * I m)) _
      by_cases e : i = m
      · subst e
        rw [if_neg (by omega)] at ih
        rw [if_pos (by omega)]
        have := ih.add ((Cg.refl (a := f (i : Nat))).mul (hI i (by omega)))
        rw [Int.zero_add, Int.mul_one] at this
        exact this
      · rw [above_zero e (n + 1) (by omega), Int.zero_mul, Int.mul_zero, Int.add_zero]
        by_cases hl : i < m
        · rw [if_pos hl] at ih
          rw [if_pos (by omega)]
          exact ih
        · rw [if_neg hl] at ih
          rw [if_neg (by omega)]
          exact ih
  have := key (n + 1) (Nat.le_refl _)
  rw [if_pos (by omega)] at this
  exact this
/-! ### more of reading -/
theorem sum_S {f : Nat → Int} : ∀ n : Nat, ((List.range n).map f).sum = S n f
  | 0 => rfl
  | n + 1 => by
    rw [List.range_succ, List.map_append, List.sum_append, sum_S n]
    show _ + (f n + 0) = _ + f n
    omega
theorem All2.all {α : Type} {P : Int → Prop} {xs : List α} {ys : List Int} (h : All2 (fun _ y => P y) xs ys) : ∀ y ∈ ys, P y := by
  induction h with
  | nil => intro y hy; cases hy
  | cons h _ ih =>
    intro y hy
    rcases List.mem_cons.mp hy with rfl | hy
    · exact h
    · exact ih y hy
theorem cut_map {α : Type} {f : α → D} {xs : List α} {l u : Option Int} : ∃ ys : List α, cutD (xs.map f) l u = ys.map f ∧ ys.length ≤ xs.length := by
  refine ⟨(xs.drop (HT.sIx (xs.map f).length 0 l)).take (HT.sIx (xs.map f).length (xs.map f).length u - HT.sIx (xs.map f).length 0 l), ?_, ?_⟩
  · unfold cutD
    rw [← List.map_drop, ← List.map_take]
  · rw [List.length_take, List.length_drop]; omega
theorem cut_from1 {x : D} {r : List D} : cutD (x :: r) (some 1) none = r := by
  unfold cutD
  rw [show HT.sIx (x :: r).length 0 (some 1) = 1 from (HT.sIx_nat _ _ 1).trans (by simp), HT.sIx_none]
  simp
end Dl

namespace Dl
open PySem L2
/-! ### a list over and over -/
def oRep : DO := fun x y m Φ => match x, y with
  | .lst ds, .int k => ds.length * k.toNat ≤ LIM ∧ -(2 ^ 63) ≤ k ∧ k < 2 ^ 63 ∧ Φ (.lst (List.replicate k.toNat ds).flatten) m
  | _, _ => False
theorem repAll_many {K : PySem.W.Frag} {w : Wd} {ds : List D} {vs : List V} (r : RepAll K w ds vs) : ∀ k : Nat, RepAll K w (List.replicate k ds).flatten (List.replicate k vs).flatten
  | 0 => rfl
  | k + 1 => by
    rw [List.replicate_succ, List.replicate_succ, List.flatten_cons, List.flatten_cons]
    exact r.append (repAll_many r k)
theorem opl_rep {K : PySem.W.Frag} : OpL K rRep oRep := fun w m H x y u v Q Φ h r1 r2 vl q => by
  unfold oRep at q
  split at q
  · obtain ⟨a, xs, rfl, ha, ra⟩ := r1
    cases (show v = V.int _ from r2)
    obtain ⟨z, k1, k2, q⟩ := q
    refine ⟨a, _, xs, rfl, rfl, h.ext _ _ ha, k1, k2, lim_sz (by rw [ra.length]; exact z), fun p hp => ?_⟩
    exact vl _ m _ _ _ (Wd.le_put (h.nof hp)) (h.put hp) (rep_put_lst h hp (repAll_many ra _)) q
  · exact q.elim
end Dl

namespace Dl
open PySem L2
/-! ### the drawing state of the other kind: a row of numbers, the first a place in it -/
section
variable {K : PySem.W.Frag} {w : Wd} {m : MM} {H : Hp} {A c : Addr}
theorem HRep.openedR (h : HRep K w m H) (h1 : m.s = 1) (hS : w.S = some ⟨A, c, 1⟩) : ∃ (j : Int) (ns : List Int), 1 ≤ j ∧ HRep K (w.add A) ⟨m.M ++ [.lst ((j :: ns).map D.int)], 2⟩ H ∧ w.le (w.add A) := by
  obtain ⟨hok, h2⟩ := h.ls h1 _ hS
  obtain ⟨j, ns, hj, hA⟩ : ∃ (j : Int) (ns : List Int), 1 ≤ j ∧ H A = some (.lst ((j :: ns).map V.int)) := hok
  have fA := h2 A (by show A ∈ [A]; simp)
  exact ⟨j, ns, hj, (h.turn (s := 2) (by decide) (by decide)).adopt (o := .lst ((j :: ns).map D.int)) (by show (2 : Nat) ≠ 1; decide) fA.2.1 fA.1 ⟨_, hA, repAll_intsD (j :: ns)⟩, Wd.le_add⟩
end
def C_streamO : DC := fun ds m Φ _ => (∃ ns : List Int, ds = [.rol (ns.map D.int)] ∧ ns.length ≤ 1000) ∧ ∀ (cells : List Int), Φ (.hnd m.M.length) ⟨m.M ++ [.lst ((1 :: cells).map D.int)], m.s⟩
def C_stream : DC := fun ds m Φ _ => (∃ ns : List Int, ds = [.rol (ns.map D.int)] ∧ ns.length ≤ 1000) ∧ m.s = 0 ∧ Φ (.st 1) ⟨m.M, 1⟩
def C_takeO : DC := fun ds m Φ _ => ∃ (k : Nat) (j : Int) (cells : List Int) (n : Int), ds = [.hnd k, .int n] ∧ 0 < n ∧ n < 2 ^ 64 ∧ 1 ≤ j ∧ m.M[k]? = some (.lst ((j :: cells).map D.int)) ∧
  ∀ (r j' : Int), 1 ≤ j' → 0 ≤ r → r < n → Φ (.int r) ⟨m.M.set k (.lst ((j' :: cells).map D.int)), m.s⟩
def C_take : DC := fun ds m Φ _ => ∃ n : Int, ds = [.st 1, .int n] ∧ m.s = 1 ∧ 0 < n ∧ n < 2 ^ 64 ∧ ∀ r : Int, 0 ≤ r → r < n → Φ (.int r) m
section
variable {P : Program} {w : World} {K : PySem.W.Frag} {mg : Str → Option Value} {base : Heap} {x : Str} {lv : Nat} {ps : List Str}
theorem stream_close (h : Ok P w K mg base x lv ps C_streamO) : Ok P w K mg base x lv ps C_stream := h.impV fun vs H Q E ⟨z, w0, ds, m, Φ, Ψ, h0, r, vl, xl, hds, hs, q⟩ => by
  refine ⟨z, w0, ds, m, fun d m' => ∃ cells : List Int, d = .hnd m.M.length ∧ m' = ⟨m.M ++ [.lst ((1 :: cells).map D.int)], m.s⟩, Ψ, h0, r, ?_, xl, hds, fun cells => ⟨cells, rfl, rfl⟩⟩
  rintro d m' w' H' v l h' rd ⟨cells, rfl, rfl⟩
  obtain ⟨A, rfl, eA⟩ := rd
  have hS : w'.S = none := h'.flag.1 hs
  have gA : (m.M ++ [MO.lst ((1 :: cells).map D.int)])[m.M.length]? = some (.lst ((1 :: cells).map D.int)) := by
    rw [List.getElem?_append_right (Nat.le_refl _)]; simp
  obtain ⟨xs, hA, rx⟩ := h'.obj _ A _ eA gA
  have ex := ints_ok (ints_map (1 :: cells)) rx
  subst ex
  have lS : w'.le ⟨w'.F, w'.th, some ⟨A, A, 1⟩⟩ := ⟨fun _ _ h => h, fun _ _ h => h, fun S e => by rw [hS] at e; cases e⟩
  have h2 : HRep K ⟨w'.F, w'.th, some ⟨A, A, 1⟩⟩ ⟨m.M ++ [.lst ((1 :: cells).map D.int)], 2⟩ H' :=
    ⟨h'.ext, h'.len, h'.nd, fun k a o q1 q2 => (h'.obj k a o q1 q2).mono lS rfl, h'.thF, fun q => (by cases q), ⟨fun q => (by cases q), fun q => (by cases q)⟩⟩
  have h3 := h2.closed (M0 := m.M) (S := ⟨A, A, 1⟩) (by show (m.M ++ _).take _ = _; rw [List.take_left' rfl]) rfl h0.cls (fun a ha => by
    have ha : a ∈ [A] := ha
    rw [List.mem_singleton.mp ha]
    exact ⟨_, Nat.le_refl _, eA, _, gA, fun z => by cases z⟩) ⟨1, cells, by decide, hA⟩
  exact vl (.st 1) ⟨m.M, 1⟩ _ H' _ (Wd.le_cut (l.trans lS) (Nat.le_of_eq h0.len)) h3 ⟨⟨A, A, 1⟩, rfl, rfl, rfl⟩ q
theorem take_close (h : Ok P w K mg base x lv ps C_takeO) : Ok P w K mg base x lv ps C_take := h.impV fun vs H Q E ⟨z, w0, ds, m, Φ, Ψ, h0, r, vl, xl, n, hds, hs, hn, hn2, q⟩ => by
  subst hds
  obtain ⟨v1, v2, rfl, ⟨⟨A, c, k⟩, hS, hk, rfl⟩, rfl⟩ := rep2 r
  have hk : k = 1 := hk
  subst hk
  obtain ⟨j, cells, hj, h1, l1⟩ := h0.openedR hs hS
  have e1 : (w0.add A).th[m.M.length]? = some A := by
    show (w0.th ++ [A])[m.M.length]? = some A
    rw [← h0.len, List.getElem?_append_right (Nat.le_refl _)]; simp
  have gA : ∀ i : Int, (m.M ++ [MO.lst ((i :: cells).map D.int)])[m.M.length]? = some (.lst ((i :: cells).map D.int)) := fun i => by
    rw [List.getElem?_append_right (Nat.le_refl _)]; simp
  refine ⟨z, w0.add A, [.hnd m.M.length, .int n], ⟨m.M ++ [.lst ((j :: cells).map D.int)], 2⟩, fun d m' => ∃ (r j' : Int), d = .int r ∧ 1 ≤ j' ∧ 0 ≤ r ∧ r < n ∧ m' = ⟨m.M ++ [.lst ((j' :: cells).map D.int)], 2⟩, XF, h1, ⟨.ref A, _, rfl, ⟨A, rfl, e1⟩, .int n, [], rfl, rfl, rfl⟩, ?_, fun _ _ _ _ _ _ _ _ _ _ _ q => q.elim, m.M.length, j, cells, n, rfl, hn, hn2, hj, gA j, fun r j' hj' hr0 hr1 => ⟨r, j', rfl, hj', hr0, hr1, ?_⟩⟩
  · rintro d m' w' H' v l h' rd ⟨r, j', rfl, hj', hr0, hr1, rfl⟩
    have rd : v = .int r := rd
    subst rd
    have f1 := l.th _ _ e1
    obtain ⟨xs, hA, rx⟩ := h'.obj _ A _ f1 (gA j')
    have ex := ints_ok (ints_map (j' :: cells)) rx
    subst ex
    have lall := l1.trans l
    have hS' : w'.S = some ⟨A, c, 1⟩ := lall.S _ hS
    have h3 := h'.closed (M0 := m.M) (S := ⟨A, c, 1⟩) (by show (m.M ++ _).take _ = _; rw [List.take_left' rfl]) hS' h0.cls (fun a ha => by
      have ha : a ∈ [A] := ha
      rw [List.mem_singleton.mp ha]
      exact ⟨_, Nat.le_refl _, f1, _, gA j', fun z => by cases z⟩) ⟨j', cells, hj', hA⟩
    have em : (⟨m.M, 1⟩ : MM) = m := by rw [← hs]
    rw [em] at h3
    exact vl (.int r) m _ H' _ (Wd.le_cut lall (Nat.le_of_eq h0.len)) h3 rfl (q r hr0 hr1)
  · show (⟨_, 2⟩ : MM) = ⟨_, 2⟩
    congr 1
    rw [List.set_append_right _ _ (Nat.le_refl _)]
    simp
end
local macro_rules | `(tactic| walk_at "dl") => `(tactic| try simp only [dSeq, dSet, dOp, dUn, dVar, dC, dCB, dCons, dNil, dRet, dRetN, dIf, dB, dAnd, dOr, dNot, dDrop, dNext, dMethL, dSetIx, dAndV, dOrV, dNotV, dBlV, dIfE, dLst, dTup, dLstM, dCall, dChain, dAsg, dgName, dgTup, bindD, asT, dFor, diList, diRng1, diRng2, diEnumerate, diZip, diReversed, dLc, dLcM, dYes, wipeD, dAug, dSl, dpN, dpS,
  oI, oI0, oB0, oAdd, oNeg, oEq, oNe, oIx, oIsN, oNotN, isNon, oShl, oApp, oPop, oPopAt, cLen, cInt, cAbs, cSum, cMax2, cMin2, cList, cIsi, tyD, asL, asF, asK, moL_lst, ModC, DivC,
  List.getElem?_cons_zero, List.getElem?_cons_succ, List.set_cons_zero, List.set_cons_succ, List.getElem?_nil, List.length_cons, List.length_nil, List.length_map, Option.map_some, Option.bind_some, Option.isSome_some, if_true, true_and, and_true, MM.push])
def W_stream : DS := dSeq (dSet 1 (dLstM (dCons (dC (.int 1)) (dNil)))) (dSeq (dFor (diList (dSl (dVar 0) (dpN) (dpS (dC (.int 63))))) (dgName 2) (dSeq (dSet 5 (dCB cAbs (dCons (dCB cInt (dCons (dVar 2) (dNil))) (dNil)))) (dFor (diRng1 (dCons (dC (.int 60)) (dNil))) (dgName 4) (dSeq (dDrop (dMethL oApp (dVar 1) (dCons (dOp oMod (dVar 5) (dC (.int 59))) (dNil)))) (dSeq (dSet 5 (dOp oDiv (dVar 5) (dC (.int 59)))) (dIf (dB (dOp oEq (dVar 5) (dC (.int 0)))) (dBreak) (dNext))))))) (dSeq (dSet 3 (dC (.int 7))) (dSeq (dFor (diList (dSl (dVar 0) (dpN) (dpS (dC (.int 63))))) (dgName 2) (dSet 3 (dOp oMod (dCB cInt (dCons (dOp oAdd (dOp oAdd (dOp oMul (dVar 3) (dC (.int 131))) (dVar 2)) (dC (.int 17))) (dNil))) (dC (.int 1000003))))) (dSeq (dFor (diRng1 (dCons (dC (.int 150)) (dNil))) (dgName 4) (dSeq (dSet 3 (dOp oMod (dCB cInt (dCons (dOp oAdd (dOp oAdd (dOp oMul (dVar 3) (dC (.int 48271))) (dOp oMul (dVar 4) (dC (.int 69621)))) (dC (.int 11))) (dNil))) (dC (.int 2147483647)))) (dDrop (dMethL oApp (dVar 1) (dCons (dOp oMod (dOp oDiv (dVar 3) (dC (.int 1009))) (dC (.int 59))) (dNil)))))) (dRet (dVar 1))))))
def W_take : DS := dSeq (dIf (dB (dOp oLt (dOp oIx (dVar 0) (dC (.int 0))) (dCB cLen (dCons (dVar 0) (dNil))))) (dSeq (dSetIx (dOp oAdd (dOp oIx (dVar 0) (dC (.int 0))) (dC (.int 1))) (dVar 0) (dC (.int 0))) (dRet (dOp oMod (dCB cInt (dCons (dOp oIx (dVar 0) (dOp oSub (dOp oIx (dVar 0) (dC (.int 0))) (dC (.int 1)))) (dNil))) (dVar 1)))) (dNext)) (dRet (dC (.int 0)))
theorem rd_stream : ∀ ds m Φ Ψ, ds.length = 1 → C_streamO ds m Φ Ψ → W_stream { nx := fun _ m' => Φ .non m', rt := Φ } (fun _ => Ψ) (ds.map some ++ List.replicate (6 - ds.length) none) m := by
  intro ds m Φ Ψ _ h
  obtain ⟨⟨ns, rfl, hlen⟩, q⟩ := h
  change W_stream _ _ [some (D.rol (ns.map D.int)), none, none, none, none, none] m
  unfold W_stream
  obtain ⟨cs, ecs, lcs⟩ := cut_map (f := D.int) (xs := ns) (l := none) (u := some 63)
  have gx : ∀ l : List Int, (m.M ++ [MO.lst (l.map D.int)])[m.M.length]? = some (MO.lst (l.map D.int)) := fun l => by rw [List.getElem?_append_right (Nat.le_refl _)]; simp
  have st : ∀ (l : List Int) z, (m.M ++ [MO.lst (l.map D.int)]).set m.M.length z = m.M ++ [z] := fun l z => by rw [List.set_append_right _ _ (Nat.le_refl _)]; simp
  have ap : ∀ (l : List Int) (z : Int), (l.map D.int) ++ [D.int z] = (l ++ [z]).map D.int := fun l z => by rw [List.map_append]; rfl
  refine dSeq_k fun k1 h1 => ?_
  walk_at "dl"
  refine ⟨by decide, ?_⟩
  subst h1
  refine dSeq_k fun k1 h1 => ?_
  walk_at "dl"
  rw [ecs]
  refine forW_map (inj := D.int) (fun r ρ m' => ∃ (cells : List Int) (v2 v3 v4 v5 : Option D), ρ = [some (D.rol (ns.map D.int)), some (.hnd m.M.length), v2, v3, v4, v5] ∧ m' = ⟨m.M ++ [.lst ((1 :: cells).map D.int)], m.s⟩ ∧ cells.length + 60 * r.length ≤ 60000) ?_ ?_ cs _ _ ⟨[], _, _, _, _, rfl, rfl, by rw [List.length_nil]; omega⟩
  · rintro c r kk hkk ρ m' ⟨cells, v2, v3, v4, v5, rfl, rfl, hl⟩
    clear h1
    rw [List.length_cons] at hl
    simp only [dgName]
    refine dSeq_k fun k1 h1 => ?_
    walk_at "dl"
    subst h1
    walk_at "dl"
    refine ⟨⟨by decide, by decide⟩, ?_⟩
    simp only [rngD0]
    refine forW_nat (fun i ρ m' => ∃ (cells : List Int) (left : Int) (v4 : Option D), ρ = [some (D.rol (ns.map D.int)), some (.hnd m.M.length), some (.int c), v3, v4, some (.int left)] ∧ m' = ⟨m.M ++ [.lst ((1 :: cells).map D.int)], m.s⟩ ∧ cells.length + 60 * r.length + 60 ≤ 60000 + i) ?_ ?_ ⟨cells, _, _, rfl, rfl, by omega⟩
    · rintro i ki hi hki ρ m' ⟨cells, left, v4, rfl, rfl, hl⟩
      have hi : i < 60 := hi
      simp only [dgName]
      refine dSeq_k fun k1 h1 => ?_
      walk_at "dl"
      simp only [gx, moL_lst, Option.isSome_some, true_and]
      walk_at "dl"
      refine ⟨by decide, by show cells.length + 1 < 16777216; omega, ?_⟩
      rw [st]
      have e1 : (1 :: cells).map D.int ++ [D.int (left % 59)] = (1 :: (cells ++ [left % 59])).map D.int := ap (1 :: cells) _
      rw [e1]
      subst h1
      refine dSeq_k fun k1 h1 => ?_
      walk_at "dl"
      refine ⟨⟨by decide, by decide⟩, ?_⟩
      subst h1
      walk_at "dl"
      refine ⟨rfl, rfl, ?_⟩
      simp only [dBreak]
      split
      · exact hkk _ _ ⟨_, _, _, _, _, rfl, rfl, by rw [List.length_append, List.length_singleton]; omega⟩
      · exact hki _ _ ⟨_, _, _, rfl, rfl, by rw [List.length_append, List.length_singleton]; omega⟩
    · rintro ρ m' ⟨cells, left, v4, rfl, rfl, hl⟩
      have hl : cells.length + 60 * r.length + 60 ≤ 60000 + 60 := hl
      exact hkk _ _ ⟨_, _, _, _, _, rfl, rfl, by omega⟩
  · rintro ρ m' ⟨cells, v2, v3, v4, v5, rfl, rfl, hl⟩
    subst h1
    dsimp only
    refine dSeq_k fun k1 h1 => ?_
    walk_at "dl"
    subst h1
    refine dSeq_k fun k1 h1 => ?_
    walk_at "dl"
    rw [ecs]
    refine forW_map (inj := D.int) (fun _ ρ m' => ∃ (seed : Int) (v2 : Option D), ρ = [some (D.rol (ns.map D.int)), some (.hnd m.M.length), v2, some (.int seed), v4, v5] ∧ m' = ⟨m.M ++ [.lst ((1 :: cells).map D.int)], m.s⟩) ?_ ?_ cs _ _ ⟨7, _, rfl, rfl⟩
    · rintro c r kk hkk ρ m' ⟨seed, v2, rfl, rfl⟩
      walk_at "dl"
      exact ⟨.inr (.inl ⟨by decide, by decide⟩), by decide, hkk _ _ ⟨_, _, rfl, rfl⟩⟩
    · rintro ρ m' ⟨seed, v2, rfl, rfl⟩
      subst h1
      dsimp only
      refine dSeq_k fun k1 h1 => ?_
      walk_at "dl"
      refine ⟨⟨by decide, by decide⟩, ?_⟩
      simp only [rngD0]
      refine forW_nat (fun i ρ m' => ∃ (cells : List Int) (seed : Int) (v4 : Option D), ρ = [some (D.rol (ns.map D.int)), some (.hnd m.M.length), v2, some (.int seed), v4, v5] ∧ m' = ⟨m.M ++ [.lst ((1 :: cells).map D.int)], m.s⟩ ∧ cells.length ≤ 60000 + i) ?_ ?_ ⟨cells, _, _, rfl, rfl, by omega⟩
      · rintro i ki hi hki ρ m' ⟨cells, seed, v4, rfl, rfl, hl⟩
        have hi : i < 150 := hi
        clear h1
        simp only [dgName]
        refine dSeq_k fun k1 h1 => ?_
        walk_at "dl"
        refine ⟨.inr (.inl ⟨by decide, by decide⟩), .inr (.inl ⟨by decide, by decide⟩), by decide, ?_⟩
        subst h1
        walk_at "dl"
        simp only [gx, moL_lst, Option.isSome_some, true_and]
        walk_at "dl"
        refine ⟨⟨by decide, by decide⟩, by decide, by show cells.length + 1 < 16777216; omega, ?_⟩
        rw [st]
        have e1 : ∀ z : Int, (1 :: cells).map D.int ++ [D.int z] = (1 :: (cells ++ [z])).map D.int := fun z => ap (1 :: cells) z
        rw [e1]
        exact hki _ _ ⟨_, _, _, rfl, rfl, by rw [List.length_append, List.length_singleton]; omega⟩
      · rintro ρ m' ⟨cells, seed, v4, rfl, rfl, hl⟩
        subst h1
        walk_at "dl"
        exact q cells
theorem rd_take : ∀ ds m Φ Ψ, ds.length = 2 → C_takeO ds m Φ Ψ → W_take { nx := fun _ m' => Φ .non m', rt := Φ } (fun _ => Ψ) (ds.map some ++ List.replicate (2 - ds.length) none) m := by
  intro ds m Φ Ψ _ h
  obtain ⟨k, j, cells, n, rfl, hn, hn2, hj, hk, q⟩ := h
  change W_take _ _ [some (D.hnd k), some (D.int n)] m
  unfold W_take
  have kl : k < m.M.length := (List.getElem?_eq_some_iff.mp hk).1
  have setk : ∀ x, (m.M.set k x)[k]? = some x := fun x => List.getElem?_set_self kl
  refine dSeq_k fun k1 h1 => ?_
  walk_at "dl"
  simp only [hk, moL_lst]
  rw [List.map_cons]
  refine ⟨_, atI_cons0, ?_⟩
  walk_at "dl"
  by_cases hl : j < ((cells.length + 1 : Nat) : Int)
  · rw [decide_eq_true hl, if_pos rfl]
    simp only [hk, moL_lst, List.map_cons]
    refine ⟨_, atI_cons0, ?_⟩
    walk_at "dl"
    refine ⟨0, ixN0 (by simp), ?_⟩
    walk_at "dl"
    simp only [setk, moL_lst]
    refine ⟨_, atI_cons0, ?_⟩
    walk_at "dl"
    simp only [setk, moL_lst]
    rw [show j + 1 - 1 = j by omega]
    refine ⟨_, atI_gi (xs := (j + 1) :: cells) (by omega) (by rw [List.length_cons]; exact hl), ?_⟩
    walk_at "dl"
    exact ⟨hn, q _ (j + 1) (by omega) (Int.emod_nonneg _ (by omega)) (Int.emod_lt_of_pos _ hn)⟩
  · rw [decide_eq_false hl, if_neg (by decide)]
    subst h1
    walk_at "dl"
    have z := q 0 j hj (by omega) hn
    have e : m.M.set k (.lst ((j :: cells).map D.int)) = m.M := by
      apply List.ext_getElem?
      intro i
      by_cases hi : k = i
      · subst hi; rw [setk]; exact hk.symm
      · rw [List.getElem?_set_ne hi]
    rw [e] at z
    exact z
end Dl

namespace Dl
open PySem L2
/-! ### an own list that will not change any more -/
/-- from here on slot i's list is like a written one -/
def dFrz (i : Nat) (a : DS) : DS := fun N Ψ ρ m => match ρ[i]? with
  | some (some (.hnd k)) => match moL m.M[k]? with
    | some ds => a N Ψ (ρ.set i (some (.lst ds))) ⟨m.M.set k .dead, m.s⟩
    | none => False
  | _ => False
theorem moL_some {o : Option MO} {ds : List D} (h : moL o = some ds) : o = some (.lst ds) := by
  cases o with
  | none => cases h
  | some o =>
    cases o with
    | lst es =>
      have h : some es = some ds := h
      cases h; rfl
    | ins C fs => cases h
    | dead => cases h
theorem js_frz {X : Cx} {E : WX} {st : Stmt} {W : DS} (i : Nat) (h : JS X E st W) : JS X E st (dFrz i W) := PS.imp h fun D σ H ⟨w, ρ, m, Ψ, N, a, n, q⟩ => by
  unfold dFrz at q
  split at q
  · rename_i k e
    split at q
    · rename_i ds em
      obtain ⟨v, e1, A, rfl, eA⟩ := a.s.2 i _ e
      obtain ⟨xs, fa, hx, rr, hf⟩ := a.h.frz eA (moL_some em)
      have l : w.le (w.put A (.lst xs)) := Wd.le_put fa
      have sl : Slots X.K (w.put A (.lst xs)) (σ.set i (some (.ref A))) (ρ.set i (some (.lst ds))) := (a.s.mono l).set i ⟨A, xs, rfl, upd_same, RepAll.mono l _ _ rr⟩
      have es : σ.set i (some (.ref A)) = σ := by
        apply List.ext_getElem?
        intro j
        by_cases hj : i = j
        · subst hj
          rw [List.getElem?_set_self (List.getElem?_eq_some_iff.mp e1).1, e1]
        · rw [List.getElem?_set_ne hj]
      rw [es] at sl
      exact ⟨_, _, _, Ψ, N, ⟨hf, sl, a.x.mono l⟩, n.mono l, q⟩
    · exact q.elim
  · exact q.elim
end Dl

namespace Dl
open PySem L2 PyProof.Rows
/-! ### errors of own classes: made and raised -/
/-- what the written part must say of a class B whose __init__ is ValueError's, called by name -/
structure InitC (K : PySem.W.Frag) (B : Addr) : Prop where
  rd : PySem.W.readsIn K B (.type "type") = true
  ga : PySem.W.specialIn K (.ref B) "__getattribute__" = some (some (.builtin "type.__getattribute__"))
  at_ : PySem.W.findCls K (.ref B) (.type "type") "__init__" = some (.val (.builtin "ValueError.__init__"))
section
variable {X : Cx} {B : Addr} {x : Str} {o e : Expr} {es : List Expr} {ta : TA} {p1 p2 pos : Pos}
theorem pe_binit {pl : Sem Bool} (hg : Gl X x) (hm : X.mg x = some (.ref B)) (T : InitC X.K B) (ha : PA X (e :: es) ta) (hdb : (x == ("__debug__" : Str)) = false := by decide)
    (hc : eval (.Call (.Attribute (.Name x p1) "__init__" p2) (e :: es) [] pos) X.env = (do
      let ov ← eval (.Name x p1) X.env
      standAt p2.atName
      let (f, first) ← holding [ov] (getMethod ov "__init__" pl)
      callWith pos f first (backTo pos (starEach (e :: es) X.env)) (backToKw pos (keywordEach [] X.env))) := by rfl)
    (he : starEach (e :: es) X.env = (false, eval e X.env) :: starEach es X.env := by rfl) (hpl : (backTo pos (starEach es X.env)).any (·.1) = false := by rfl) :
    PE X (.Call (.Attribute (.Name x p1) "__init__" p2) (e :: es) [] pos) (tVeI X.K ta) := by
  constructor
  intro pins s σ H Q I told
  apply PySem.W.methodCall_KW _ hc
  apply ld_glob I hg hm _ hdb
  apply PySem.W.method_cls I.kIn T.ga
  apply PySem.W.cls_value I.kIn T.rd T.at_ (by decide +kernel)
  refine PyProof.Rows.callWith_method1 (wpAny_mono (ha.run pos pins _ σ H _ (I.tok _) told) ?_ fun _ _ z => z) he hpl
  rintro us s1 ⟨vs, H1, I1, rs, a, C, ws, rfl, many, okC, there, go⟩
  match us, rs with
  | u :: ur, .cons ra rr =>
    cases ra
    exact oinit_ok okC I1 there (by rw [← Paired.length rr, sizeLine_eq]; omega) fun s' J => ⟨.non, H1, J, rfl, go⟩
end
/-- the promise of an __init__ that keeps its arguments in the fields fs -/
def spErr (C : Addr) (fs : List Str) : Sp := fun vs H Q _ => ∃ (a : Addr) (ws : List V), vs = .ref a :: ws ∧ ws.length = fs.length ∧ H a = some (exo a C none) ∧
  ∀ dx, H dx = none → dx ≠ a → Q .non (upd (upd H dx (exd dx (fs.zip ws).reverse)) a (exo a C (some dx)))
section
variable {P : Program} {w : World} {K : PySem.W.Frag} {mg : Str → Option Value} {base : Heap}
/-- def __init__(self, y): B.__init__(self, 'text'); self.f = y -/
theorem err_init1 {qual y f t : Str} {st st1 st2 : Stmt} {fI : Addr} {fd : FuncData} {C : Addr} (F : Fun K "__init__" qual st fI fd) (S : FnScope ["self", y] ["self", y] (defScope st)) (hb : defBody st = [st1, st2])
    (g1 : ∀ (cdv : Value) (A : Around) (outer : List PySem.Env) (s : Shared) (H : Hp) (E : XK), PS (cxOf (L2.CX P w) P w K mg base ["self", y] qual (defScope st) fI cdv A outer s H E) st1 (tDrop (tVeI K (tCons (tVar 0) (tCons (tC (.str t)) tNil)))))
    (g2 : ∀ (cdv : Value) (A : Around) (outer : List PySem.Env) (s : Shared) (H : Hp) (E : XK), PS (cxOf (L2.CX P w) P w K mg base ["self", y] qual (defScope st) fI cdv A outer s H E) st2 (tOst K f (tVar 0) (tVar 1)))
    (T2 : OexC K C) (hno : PySem.W.findIn K (.ref C) f = some none) : FnOk P w K mg base (L2.CX P w) 1 fI fd ["self", y] (spErr C [f]) := by
  refine F.okX S (fun vs H Q E ⟨a, ws, e, l, _⟩ => by rw [e, List.length_cons, l]; rfl) fun cdv A outer s H vs Q E hr ⟨a, ws, e, l, ha, q⟩ => ?_
  obtain ⟨v, rfl⟩ : ∃ v, ws = [v] := by
    match ws, l with
    | [v], _ => exact ⟨v, rfl⟩
  rw [hb]
  refine ⟨_, pss_cons (g1 cdv A outer s H E) (pss_one (g2 cdv A outer s H E)), ?_⟩
  subst e
  refine ⟨_, rfl, ⟨a, C, [.str t], rfl, by show 1 ≤ 1000; decide, T2, ha, ?_⟩⟩
  exact ⟨_, rfl, _, rfl, a, C, rfl, T2, hno, .inl ⟨ha, fun dx n ne => q dx n ne⟩⟩
/-- an own error class that can be made -/
structure ErrOk (P : Program) (w : World) (K : PySem.W.Frag) (mg : Str → Option Value) (base : Heap) (c : String) (fs : List String) : Prop where
  mgc : mg (PySem.Str.ofString c) = some (.ref (kcl K c))
  oex : OexC K (kcl K c)
  len : fs.length ≤ 100
  ini : ∃ (fI : Addr) (fd : FuncData) (ps : List Str), PySem.W.findIn K (.ref (kcl K c)) "__init__" = some (some (.ref fI)) ∧ PySem.W.typeIn K (.ref fI) = some (.type "function") ∧ BA fd ps ∧
    FnOk P w K mg base (L2.CX P w) 1 fI fd ps (spErr (kcl K c) (fs.map PySem.Str.ofString))
end
/-- raise C(e, ..): what follows is the wish of the error -/
def dRaise (c : String) (fs : List String) (r : DA) : DS := fun _ Ψ ρ m => r ρ m (fun ds m1 => ds.length = fs.length ∧ Ψ ρ c (fs.zip ds).reverse m1) (Ψ ρ)
theorem RepF.append {K : PySem.W.Frag} {w : Wd} : ∀ {ds es : List (String × D)} {vs us : List (Str × V)}, RepF K w ds vs → RepF K w es us → RepF K w (ds ++ es) (vs ++ us)
  | [], _, _, _, h, g => by
    have q : _ = [] := h
    subst q; exact g
  | (f, d) :: ds, _, _, _, h, g => by
    obtain ⟨v, r, rfl, a, b⟩ := h
    exact ⟨v, _, rfl, a, RepF.append b g⟩
theorem RepF.reverse {K : PySem.W.Frag} {w : Wd} {ds : List (String × D)} {vs : List (Str × V)} (h : RepF K w ds vs) : RepF K w ds.reverse vs.reverse := by
  induction ds generalizing vs with
  | nil =>
    have q : vs = [] := h
    subst q; exact rfl
  | cons d ds ih =>
    obtain ⟨f, d⟩ := d
    obtain ⟨v, r, rfl, a, b⟩ := h
    rw [List.reverse_cons, List.reverse_cons]
    exact RepF.append (ih b) ⟨v, [], rfl, a, rfl⟩
theorem repF_zip {K : PySem.W.Frag} {w : Wd} : ∀ {fs : List String} {ds : List D} {vs : List V}, RepAll K w ds vs → RepF K w (fs.zip ds) ((fs.map PySem.Str.ofString).zip vs)
  | [], _, _, _ => rfl
  | f :: fs, [], vs, r => by
    have e : vs = [] := r
    subst e; exact rfl
  | f :: fs, d :: ds, vs, r => by
    obtain ⟨v, r', rfl, a, b⟩ := r
    exact ⟨v, _, rfl, a, repF_zip b⟩
section
variable {X : Cx} {E : WX} {c : String} {fs : List String} {e : Expr} {es : List Expr} {Ws : DA} {p cpos pos : Pos}
theorem js_raise (hc : X.calm = true) (tk : Takes X E) (G : ErrOk X.prog X.w X.K X.mg X.base c fs) (hg : Gl X (PySem.Str.ofString c)) (hr : Room 2 X.A) (ha : JA X E (e :: es) Ws)
    (hdb : (PySem.Str.ofString c == ("__debug__" : Str)) = false := by decide) (he : starEach (e :: es) X.env = (false, eval e X.env) :: starEach es X.env := by rfl) (hpl : (backTo cpos (starEach es X.env)).any (·.1) = false := by rfl) :
    JS X E (.Raise (some (.Call (.Name (PySem.Str.ofString c) p) (e :: es) [] cpos)) none pos) (dRaise c fs Ws) := by
  obtain ⟨hm, T, hlen, fI, fd, ps, iC, tI, b, F1⟩ := G
  refine PS.imp (ps_raise hc tk (pmk_oex T iC tI F1 hr (Binds.all b) .nil passL hg hm ha hdb he hpl)) fun D σ H ⟨w, ρ, m, Ψ, N, a, n, q⟩ => ?_
  refine ⟨w, ρ, m, Ψ ρ, _, a.at, ?_, q⟩
  intro ds m1 w1 H1 vs l1 h1 r1 ⟨hl, q1⟩
  have hvl : vs.length = fs.length := r1.length.trans hl
  refine ⟨by show vs.length ≤ 1000; omega, fun b hb0 => ⟨b, vs, by rw [List.append_nil], by rw [List.length_map]; exact hvl, upd_same, fun dx hdx hne => ⟨rfl, dx, ((fs.map PySem.Str.ofString).zip vs).reverse, upd_same, ?_, ?_, ?_⟩⟩⟩
  · rw [upd_ne hne, upd_same]
  · rw [upd_ne hne] at hdx
    exact hdx
  · have hd1 : H1 dx = none := by rw [upd_ne hne] at hdx; exact hdx
    have eh : upd (del (upd (upd (upd H1 b (exo b (kcl X.K c) none)) dx (exd dx ((fs.map PySem.Str.ofString).zip vs).reverse)) b (exo b (kcl X.K c) (some dx))) b) dx (.xd ((fs.map PySem.Str.ofString).zip vs).reverse) = upd H1 dx (.xd ((fs.map PySem.Str.ofString).zip vs).reverse) := by
      funext z
      by_cases z1 : z = dx
      · rw [z1, upd_same, upd_same]
      · rw [upd_ne z1, upd_ne z1]
        by_cases z2 : z = b
        · rw [z2, del_same, hb0]
        · rw [del_ne z2, upd_ne z2, upd_ne z1, upd_ne z2]
    rw [eh]
    have lw : w1.le (w1.put dx (.xd ((fs.map PySem.Str.ofString).zip vs).reverse)) := Wd.le_put (h1.nof hd1)
    exact a.x ρ σ w (.refl w) a.s c (fs.zip ds).reverse m1 _ _ dx _ (l1.trans lw) (h1.put hd1) upd_same (RepF.reverse (repF_zip (RepAll.mono lw _ _ r1))) q1
end

/-! ### try .. except B as n -/
/-- L tells of each class whether the clause takes it -/
def dTryAs (i : Nat) (L : List (String × Bool)) (body : DS) (su : Addr → Addr → String → DS) : DS := fun N Ψ ρ m =>
  body N (fun ρ' c fs m' => match L.lookup c with
    | some true => ∀ a d, su a d c { nx := fun ρ2 m2 => N.nx (ρ2.set i none) m2, rt := N.rt, bk := fun ρ2 m2 => N.bk (ρ2.set i none) m2, ct := fun ρ2 m2 => N.ct (ρ2.set i none) m2 } (fun _ => XF) (ρ'.set i (some (.exc a d c fs))) m'
    | some false => Ψ ρ' c fs m'
    | none => False) ρ m
def CatT (K : PySem.W.Frag) (B : String) (L : List (String × Bool)) : Prop := ∀ c b, L.lookup c = some b → PySem.W.exmOne K (.ref (kcl K c)) (.ref (kcl K B)) = some b ∧ PySem.W.kitOne K (.ref (kcl K c)) (.ref (kcl K B)) = some b
theorem catT_nil {K : PySem.W.Frag} {B : String} : CatT K B [] := fun c b h => by cases h
theorem catT_cons {K : PySem.W.Frag} {B c : String} {b : Bool} {L : List (String × Bool)} {C CB : Addr} (e1 : PySem.W.nsIn K mainGlobals (PySem.Str.ofString c) = some (some (.ref C))) (e2 : PySem.W.nsIn K mainGlobals (PySem.Str.ofString B) = some (some (.ref CB)))
    (k1 : PySem.W.subIn K (.ref CB) (.type "BaseException") = some true) (k2 : PySem.W.hasDictIn K CB = true) (k3 : PySem.W.typeIn K (.ref CB) = some (.type "type")) (k4 : PySem.W.subIn K (.ref C) (.ref CB) = some b) (k5 : C = CB → b = true) (r : CatT K B L) : CatT K B ((c, b) :: L) := fun c' b' h => by
  rw [List.lookup_cons] at h
  cases q : c' == c with
  | true =>
    rw [q] at h
    cases h
    have e := beq_iff_eq.mp q
    subst e
    rw [kcl_of e1, kcl_of e2]
    have kc : PySem.W.kitCls K (.ref C) (.ref CB) = some b := by
      have z := PySem.W.exm_ref k1 k2 k3 k4
      unfold PySem.W.exmOne at z
      rw [if_pos (by rw [k1]; rfl)] at z
      exact z
    refine ⟨PySem.W.exm_ref k1 k2 k3 k4, ?_⟩
    unfold PySem.W.kitOne
    by_cases hc : C = CB
    · rw [k5 hc, if_pos (by rw [hc]; exact beq_self_eq_true _)]
    · rw [if_neg (fun z => hc (Value.ref.inj (beq_iff_eq.mp z)))]
      exact kc
  | false => rw [q] at h; exact r c' b' h
section
variable {X : Cx} {E : WX} {B : String} {L : List (String × Bool)} {n : Str} {body suite : List Stmt} {b₀ : Stmt} {np pos pos' : Pos} {t : DS} {su : Addr → Addr → String → DS}
theorem js_try_as (i : Nat) (hN : X.N.Nodup) (hi : X.N[i]? = some n) (tk : Takes X E) (hg : Gl X (PySem.Str.ofString B)) (hm : X.mg (PySem.Str.ofString B) = some (.ref (kcl X.K B))) (T : CatT X.K B L)
    (hb : ∀ (W : WX) (pn : List (Addr × Obj)) (xe : Value → Shared → Prop), Takes (X.tr pn xe) W → PassesOwn (model X.prog X.w) X.A X.env xe → JSs (X.tr pn xe) W body t)
    (hsu : ∀ (a : Addr) (oe : Obj) (c : String) (d : Addr) (pn : List (Addr × Obj)), L.lookup c = some true → Zc (.ref (kcl X.K c)) (some d) oe → (∃ vs, oe.data = .fields vs) → JSs (X.suite a ((a, oe) :: pn)) EF (b₀ :: suite) (su a d c))
    (hln : X.env.kindOf n = some .local := by rfl) (hdb : (PySem.Str.ofString B == ("__debug__" : Str)) = false := by decide) (hs : X.stack = X.env :: X.outer := by rfl) (hf : X.env.frame = some X.env.locals := by rfl) :
    JS X E (.Try body [.ExceptHandler (some (.Name (PySem.Str.ofString B) np)) (some n) (b₀ :: suite) pos'] [] [] pos) (dTryAs i L t su) := by
  refine PS.imp (ps_try_as (tb := fun W => liftS X.K W t) (ts := fun a cls d D σ H => ∃ c dd, cls = .ref (kcl X.K c) ∧ d = some dd ∧ L.lookup c = some true ∧ liftS X.K EF (su a dd c) D σ H) hs hf hN hi hln ⟨hg, hdb, .inl hm⟩ tk hb ?_) ?_
  · intro a oe cls d pn hz hf
    refine ⟨fun pins s σ H D I q => ?_⟩
    obtain ⟨c, dd, rfl, rfl, hl, q⟩ := q
    exact (hsu a oe c dd pn hl hz hf).run pins s σ H D I q
  · rintro D σ H ⟨w, ρ, m, Ψ, N, a, nn, q⟩
    refine ⟨w, ρ, m, _, N, ⟨a.h, a.s, ?_⟩, nn, q⟩
    intro ρ' σ' w1 l1 s1 c fs m' w2 H' d xs l2 h2 hd rf q2
    cases hl : L.lookup c with
    | none =>
      have q3 : (match L.lookup c with
            | some true => ∀ a d, su a d c { nx := fun ρ2 m2 => N.nx (ρ2.set i none) m2, rt := N.rt, bk := fun ρ2 m2 => N.bk (ρ2.set i none) m2, ct := fun ρ2 m2 => N.ct (ρ2.set i none) m2 } (fun _ => XF) (ρ'.set i (some (.exc a d c fs))) m'
            | some false => Ψ ρ' c fs m'
            | none => False) := q2
      rw [hl] at q3
      exact q3.elim
    | some b =>
      refine ⟨b, (T c b hl).1, fun hb a' ha' => ?_, fun hb => ?_⟩
      · subst hb
        have q3 : (match L.lookup c with
            | some true => ∀ a d, su a d c { nx := fun ρ2 m2 => N.nx (ρ2.set i none) m2, rt := N.rt, bk := fun ρ2 m2 => N.bk (ρ2.set i none) m2, ct := fun ρ2 m2 => N.ct (ρ2.set i none) m2 } (fun _ => XF) (ρ'.set i (some (.exc a d c fs))) m'
            | some false => Ψ ρ' c fs m'
            | none => False) := q2
        rw [hl] at q3
        have n2 := nn.mono (l1.trans l2)
        refine ⟨c, d, rfl, rfl, hl, w2, _, m', _, { nx := fun ρ2 m2 => N.nx (ρ2.set i none) m2, rt := N.rt, bk := fun ρ2 m2 => N.bk (ρ2.set i none) m2, ct := fun ρ2 m2 => N.ct (ρ2.set i none) m2 }, ⟨h2, (s1.mono l2).set (d := .exc a' d c fs) i ⟨rfl, xs, hd, rf⟩, fun _ _ _ _ _ => xlift_F⟩, ?_, q3 a' d⟩
        exact ⟨fun ρ3 m3 w3 H3 σ3 l3 h3 s3 q3 => n2.nx _ m3 w3 H3 _ l3 h3 (s3.wipe i) q3, n2.rt, fun ρ3 m3 w3 H3 σ3 l3 h3 s3 q3 => n2.bk _ m3 w3 H3 _ l3 h3 (s3.wipe i) q3, fun ρ3 m3 w3 H3 σ3 l3 h3 s3 q3 => n2.ct _ m3 w3 H3 _ l3 h3 (s3.wipe i) q3⟩
      · subst hb
        have q3 : (match L.lookup c with
            | some true => ∀ a d, su a d c { nx := fun ρ2 m2 => N.nx (ρ2.set i none) m2, rt := N.rt, bk := fun ρ2 m2 => N.bk (ρ2.set i none) m2, ct := fun ρ2 m2 => N.ct (ρ2.set i none) m2 } (fun _ => XF) (ρ'.set i (some (.exc a d c fs))) m'
            | some false => Ψ ρ' c fs m'
            | none => False) := q2
        rw [hl] at q3
        exact a.x ρ' σ' w1 l1 s1 c fs m' w2 H' d xs l2 h2 hd rf q3
end
/-! in the suite -/
/-- what the written part says of an own error class whose instances are looked at -/
structure ErrS (K : PySem.W.Frag) (C : Addr) : Prop where
  ga : PySem.W.findIn K (.ref C) "__getattribute__" = some (some (.builtin "BaseException.__getattribute__"))
  gg : PySem.W.findIn K (.ref C) "__getattr__" = some none
  exC : PySem.W.subIn K (.ref C) (.type "BaseException") = some true
  hdC : PySem.W.hasDictIn K C = true
  ha : PySem.W.findIn K (.ref C) "__class__" = some (some (.builtin "object.__class__"))
  hn : PySem.W.specialIn K (.builtin "object.__class__") "__get__" = some (some (.builtin "getset_descriptor.__get__"))
  ht : PySem.W.takesIn K (.builtin "object.__class__") = some true
  hm : PySem.W.mroIn K C (.type "object") = some true
theorem ErrS.xf {K : PySem.W.Frag} {C : Addr} (h : ErrS K C) : XfC K C := ⟨h.ga, h.gg, h.exC, h.hdC⟩
/-- e.f -/
def dXf (a d : Addr) (f : String) (o : DE) : DE := fun ρ m Φ Ψ => o ρ m (fun x m1 => match x with
  | .exc a' d' _ fs => a' = a ∧ d' = d ∧ ∃ v, fs.lookup f = some v ∧ Φ v m1
  | _ => False) Ψ
section
variable {X : Cx} {a d : Addr} {oe : Obj} {c : String} {pn : List (Addr × Obj)} {o : Expr} {W : DE} {f : String} {pos : Pos}
theorem je_xf (T : ErrS X.K (kcl X.K c)) (hno : PySem.W.findIn X.K (.ref (kcl X.K c)) (PySem.Str.ofString f) = some none) (hz : Zc (.ref (kcl X.K c)) (some d) oe) (hf : ∃ vs, oe.data = .fields vs) (ho : JE (X.suite a ((a, oe) :: pn)) EF o W)
    (hb : attributeBase o (PySem.Str.ofString f) X.env (eval o X.env) = eval o X.env := by rfl) : JE (X.suite a ((a, oe) :: pn)) EF (.Attribute o (PySem.Str.ofString f) pos) (dXf a d f W) :=
  PE.imp (pe_xf T.xf hno hz hf ho hb) fun σ H Q ⟨w, ρ, m, Ψ, Φ, at_, vl, q⟩ => by
  refine ⟨w, ρ, m, Ψ, _, at_, fun x m1 w1 H1 v l1 h1 r1 q1 => ?_, q⟩
  cases x with
  | exc a' d' c' fs =>
    obtain ⟨rfl, rfl, y, hy, q1⟩ := q1
    obtain ⟨rfl, xs, hx, rf⟩ := r1
    obtain ⟨u, hu, ru⟩ := rf.look hy
    exact ⟨rfl, rfl, d', xs, u, rfl, h1.ext _ _ hx, hu, vl y m1 w1 H1 u l1 h1 ru q1⟩
  | _ => exact False.elim q1
/-- isinstance(e, B) of the caught error -/
def dIsE (a d : Addr) (L : List (String × Bool)) (B : String) (c : String) (o : DE) : DE := fun ρ m Φ Ψ => o ρ m (fun x m1 => match x with
  | .exc a' d' _ _ => a' = a ∧ d' = d ∧ ∃ b, L.lookup c = some b ∧ Φ (.bl b) m1
  | _ => False) Ψ
end

/-! ### what the top must say of the classes -/
def Hnos (K : PySem.W.Frag) (C : Addr) (fs : List String) : Prop := ∀ f ∈ fs, PySem.W.findIn K (.ref C) (PySem.Str.ofString f) = some none
theorem hnos_nil {K : PySem.W.Frag} {C : Addr} : Hnos K C [] := fun f h => by cases h
theorem hnos_cons {K : PySem.W.Frag} {C : Addr} {f : String} {fs : List String} (h : PySem.W.findIn K (.ref C) (PySem.Str.ofString f) = some none) (r : Hnos K C fs) : Hnos K C (f :: fs) := fun g hg => by
  rcases List.mem_cons.mp hg with e | e
  · subst e; exact h
  · exact r g e
structure ErrT (K : PySem.W.Frag) (mg : Str → Option Value) (c : String) (q : Str) (st : Stmt) (ps : List Str) (fs : List String) : Prop where
  mgc : mg (PySem.Str.ofString c) = some (.ref (kcl K c))
  oex : OexC K (kcl K c)
  hno : Hnos K (kcl K c) fs
  ini : ∃ (fI : Addr) (fd : FuncData), PySem.W.findIn K (.ref (kcl K c)) "__init__" = some (some (.ref fI)) ∧ PySem.W.typeIn K (.ref fI) = some (.type "function") ∧ Fun K "__init__" q st fI fd ∧ BA fd ps
theorem errT_mk {K : PySem.W.Frag} {h : Heap} {mg : Str → Option Value} {c : String} {q : Str} {st : Stmt} {ps : List Str} {fs : List String} {C fI : Addr} {od an : Option Addr} {sl : Array (Option Value)} {oc kV dc pm cd ct : Value}
    {nm qq N bs bm sn sub ab col dd k0 k1 k2 k3 k5} (X : K.In h) (G : h.Ns mainGlobals mg)
    (a : PySem.W.nsIn K mainGlobals (PySem.Str.ofString c) = some (some (.ref C)))
    (c1 : K.lookup C = some (excClassObj nm qq C N bs bm true sn sub ab col dd k0 k1 k2 k3 k5 "ValueError.__new__")) (c2 : PySem.HandSPX.refsVE bm = true)
    (c3 : PySem.W.findIn K (.ref C) "__setattr__" = some (some (.builtin "object.__setattr__"))) (c4 : PySem.W.subIn K (.ref C) (.type "BaseException") = some true)
    (c5 : PySem.W.typeIn K (.ref C) = some (.type "type")) (c6 : PySem.W.keepIn K (.ref C) = true) (hno : Hnos K C fs)
    (i1 : PySem.W.findIn K (.ref C) "__init__" = some (some (.ref fI))) (i2 : PySem.W.typeIn K (.ref fI) = some (.type "function"))
    (l : K.lookup fI = some ⟨oc, od, .func (PySem.W.fnOf "__init__" q (defArgs st) (defBody st) (defScope st) .none kV dc pm an cd ct), sl⟩) (cc : PySem.W.codeIn K cd q = true) (k : PySem.W.keepIn K (.ref fI) = true)
    (b : ∀ (kV doc pm : Value) (an : Option Addr) (cdv ct : Value) (us : List Value), us.length = ps.length → bindArgs (PySem.W.fnOf "__init__" q (defArgs st) (defBody st) (defScope st) .none kV doc pm an cdv ct) ⟨us, []⟩ = pure (ps.zip us)) : ErrT K mg c q st ps fs := by
  have e := kcl_of a
  refine ⟨?_, ?_, ?_, fI, _, ?_, i2, fun_mk l cc k, b kV dc pm an cd ct⟩
  · rw [e]; exact PySem.W.mg_of X G a
  · rw [e]; exact ⟨⟨nm, qq, N, bs, bm, sn, sub, ab, col, dd, k0, k1, k2, k3, k5, c1, c2⟩, c3, c4, c5, c6⟩
  · rw [e]; exact hno
  · rw [e]; exact i1
structure InitB (K : PySem.W.Frag) (mg : Str → Option Value) (b : String) : Prop where
  mgb : mg (PySem.Str.ofString b) = some (.ref (kcl K b))
  ini : InitC K (kcl K b)
theorem initB_mk {K : PySem.W.Frag} {h : Heap} {mg : Str → Option Value} {c : String} {C : Addr} (X : K.In h) (G : h.Ns mainGlobals mg) (a : PySem.W.nsIn K mainGlobals (PySem.Str.ofString c) = some (some (.ref C)))
    (rd : PySem.W.readsIn K C (.type "type") = true) (ga : PySem.W.specialIn K (.ref C) "__getattribute__" = some (some (.builtin "type.__getattribute__"))) (at_ : PySem.W.findCls K (.ref C) (.type "type") "__init__" = some (.val (.builtin "ValueError.__init__"))) : InitB K mg c := by
  have e := kcl_of a
  refine ⟨?_, ?_⟩
  · rw [e]; exact PySem.W.mg_of X G a
  · rw [e]; exact ⟨rd, ga, at_⟩
theorem g_mk {K : PySem.W.Frag} {h : Heap} {mg : Str → Option Value} {c : String} {C : Addr} (X : K.In h) (G : h.Ns mainGlobals mg) (a : PySem.W.nsIn K mainGlobals (PySem.Str.ofString c) = some (some (.ref C))) : mg (PySem.Str.ofString c) = some (.ref (kcl K c)) := by
  rw [kcl_of a]; exact PySem.W.mg_of X G a
def ErrSs (K : PySem.W.Frag) (L : List (String × Bool)) (fs : List String) : Prop := ∀ c b, L.lookup c = some b → ErrS K (kcl K c) ∧ Hnos K (kcl K c) fs
theorem errSs_nil {K : PySem.W.Frag} {fs : List String} : ErrSs K [] fs := fun c b h => by cases h
theorem errSs_cons {K : PySem.W.Frag} {c : String} {b : Bool} {L : List (String × Bool)} {fs : List String} {C : Addr} (e1 : PySem.W.nsIn K mainGlobals (PySem.Str.ofString c) = some (some (.ref C)))
    (k1 : ErrS K C) (k2 : Hnos K C fs) (r : ErrSs K L fs) : ErrSs K ((c, b) :: L) fs := fun c' b' h => by
  rw [List.lookup_cons] at h
  cases q : c' == c with
  | true =>
    rw [q] at h
    have e := beq_iff_eq.mp q
    subst e
    rw [kcl_of e1]
    exact ⟨k1, k2⟩
  | false => rw [q] at h; exact r c' b' h
theorem dRaise_one {c f : String} {a : DE} {N : DN} {Ψ : XS} {ρ : Dl.Env} {m : MM} : dRaise c [f] (dCons a dNil) N Ψ ρ m = a ρ m (fun x m1 => Ψ ρ c [(f, x)] m1) (Ψ ρ) := by
  simp [dRaise, dCons, dNil]
theorem dRaise_two {c f g : String} {a b : DE} {N : DN} {Ψ : XS} {ρ : Dl.Env} {m : MM} : dRaise c [f, g] (dCons a (dCons b dNil)) N Ψ ρ m = a ρ m (fun x m1 => b ρ m1 (fun y m2 => Ψ ρ c [(g, y), (f, x)] m2) (Ψ ρ)) (Ψ ρ) := by
  simp [dRaise, dCons, dNil]
theorem okE_int {n : Nat} {i : Int} : okE n (.int i) = true := rfl
theorem okE_bl {n : Nat} {b : Bool} : okE n (.bl b) = true := rfl
theorem okE_non {n : Nat} : okE n .non = true := rfl
end Dl

namespace Dl
open PySem L2 PyProof.Rows
/-! ### max, min of a list -/
def cMaxL : DCB := fun ds m Φ => match ds with
  | [d] => match asL m d with
    | some xs => ∃ ns, intsD xs = some ns ∧ 0 < ns.length ∧ ∀ k, k ∈ ns → (∀ y, y ∈ ns → y ≤ k) → Φ (.int k) m
    | none => False
  | _ => False
def cMinL : DCB := fun ds m Φ => match ds with
  | [d] => match asL m d with
    | some xs => ∃ ns, intsD xs = some ns ∧ 0 < ns.length ∧ ∀ k, k ∈ ns → (∀ y, y ∈ ns → k ≤ y) → Φ (.int k) m
    | none => False
  | _ => False
/-! ### shifts -/
def oShr : DO := oI (fun _ j => 0 ≤ j) fun i j => i / 2 ^ j.toNat
theorem opl_shr {K : PySem.W.Frag} : OpL K (rI (fun _ j => 0 ≤ j) fun i j => .int (i / 2 ^ j.toNat)) oShr := opl_I fun _ _ h => h
/-! ### xs.extend(ys) -/
def oExt : D → List D → MM → (D → MM → Prop) → Prop := fun x ds m Φ => match x, ds with
  | .hnd k, [y] => match moL m.M[k]?, asK m y with
    | some xs, some ys => xs.length + ys.length ≤ LIM ∧ Φ .non ⟨m.M.set k (.lst (xs ++ ys)), m.s⟩
    | _, _ => False
  | _, _ => False
/-! ### in, not in -/
def memD (x : D) (ys : List D) : Bool := ys.any fun y => eqD y x
def oInL (neg : Bool) : DO := fun x y m Φ => match y with
  | .lst ys => okE 64 x = true ∧ okE 64 (.lst ys) = true ∧ Φ (.bl (if neg then !memD x ys else memD x ys)) m
  | .rol ys => okE 64 x = true ∧ okE 64 (.rol ys) = true ∧ Φ (.bl (if neg then !memD x ys else memD x ys)) m
  | _ => False
/-! ### is True, is False -/
def oIsB : DO := fun x y m Φ => match x, y with
  | .bl a, .bl b => Φ (.bl (decide (a = b))) m
  | _, _ => False
def oNotB : DO := fun x y m Φ => match x, y with
  | .bl a, .bl b => Φ (.bl (!decide (a = b))) m
  | _, _ => False
theorem opl_notB {K : PySem.W.Frag} : OpL K rNotB oNotB := fun w m H x y u v Q Φ h r1 r2 vl q => by
  unfold oNotB at q
  split at q
  · exact ⟨_, _, r1, r2, vl.bl h q⟩
  · exact q.elim
/-! ### any -/
def blsD : List D → Option (List Bool)
  | [] => some []
  | .bl b :: r => (blsD r).map (b :: ·)
  | _ => none
theorem bls_ok {K : PySem.W.Frag} {w : Wd} : ∀ {ds : List D} {vs : List V} {bs : List Bool}, blsD ds = some bs → RepAll K w ds vs → vs = bs.map V.bl
  | [], vs, bs, e, r => by cases e; exact r
  | d :: ds, vs, bs, e, r => by
    obtain ⟨v, r', rfl, rv, rr⟩ := r
    cases d with
    | bl i =>
      have e : (blsD ds).map (i :: ·) = some bs := e
      cases q : blsD ds with
      | none => rw [q] at e; cases e
      | some ns' =>
        rw [q] at e; cases e
        cases (show v = V.bl i from rv)
        rw [bls_ok q rr]; rfl
    | _ => cases e
def cAny : DCB := fun ds m Φ => match ds with
  | [d] => match asL m d with
    | some xs => ∃ bs, blsD xs = some bs ∧ Φ (.bl (bs.any id)) m
    | none => False
  | _ => False
/-! ### xs[::-1] -/
def dRevL (a : DE) : DE := fun ρ m Φ Ψ => a ρ m (fun d m1 => match asL m1 d with
  | some ds => Φ (.lst ds.reverse) m1
  | none => False) Ψ
section
variable {X : Cx} {E : WX} {a : Expr} {Wa : DE} {pos : Pos}
end
/-! ### a comprehension over two walks -/
section
variable {X : Cx} {E : WX}
end
end Dl

namespace Dl
open PySem L2 PyProof.Rows
/-! ### objects of own classes -/
def moI : Option MO → Option (String × List (String × D))
  | some (.ins c fs) => some (c, fs)
  | _ => none
theorem moI_eq {o : Option MO} {c : String} {fs : List (String × D)} (h : moI o = some (c, fs)) : o = some (.ins c fs) := by
  cases o with
  | none => cases h
  | some o =>
    cases o with
    | ins d gs => cases h; rfl
    | _ => cases h
theorem moI_ins {c : String} {fs : List (String × D)} : moI (some (.ins c fs)) = some (c, fs) := rfl
/-- what the written part says of the classes cs and a field's name f -/
def FldT (K : PySem.W.Frag) (cs : List String) (f : String) : Prop := ∀ c, cs.contains c = true → Cls K (kcl K c) ∧ NoAttr K (kcl K c) (PySem.Str.ofString f)
theorem fldT_nil {K : PySem.W.Frag} {f : String} : FldT K [] f := fun c h => by cases h
theorem fldT_cons {K : PySem.W.Frag} {c f : String} {cs : List String} {C : Addr} (e : PySem.W.nsIn K mainGlobals (PySem.Str.ofString c) = some (some (.ref C))) (k1 : PySem.W.plainGet K C Str.empty = true) (k2 : PySem.W.hasDictIn K C = true) (k3 : PySem.W.plainOver K C = true)
    (k4 : PySem.W.findIn K (.ref C) "__setattr__" = some (some (.builtin "object.__setattr__"))) (k5 : PySem.W.findIn K (.ref C) (PySem.Str.ofString f) = some none) (r : FldT K cs f) : FldT K (c :: cs) f := fun c' h => by
  rw [List.contains_cons] at h
  cases q : c' == c with
  | true =>
    have z := beq_iff_eq.mp q
    subst z
    rw [kcl_of e]
    exact ⟨⟨k1, k2, k3, k4⟩, k5⟩
  | false =>
    rw [q, Bool.false_or] at h
    exact r c' h
/-- o.f -/
def dFld (cs : List String) (f : String) (o : DE) : DE := fun ρ m Φ Ψ => o ρ m (fun x m1 => match x with
  | .hnd k => match moI m1.M[k]? with
    | some (c, fs) => cs.contains c = true ∧ ∃ v, fs.lookup f = some v ∧ Φ v m1
    | none => False
  | _ => False) Ψ
section
variable {X : Cx} {E : WX} {o e : Expr} {Wo We : DE} {f : String} {cs : List String} {pos p' tpos : Pos}
theorem je_fld (T : FldT X.K cs f) (ho : JE X E o Wo) (hb : attributeBase o (PySem.Str.ofString f) X.env (eval o X.env) = eval o X.env := by rfl) : JE X E (.Attribute o (PySem.Str.ofString f) pos) (dFld cs f Wo) :=
  PE.imp (pe_fld ho hb) fun σ H Q ⟨w, ρ, m, Ψ, Φ, a, vl, h⟩ => by
  refine ⟨w, ρ, m, Ψ, _, a, fun x m1 w1 H1 v l1 h1 r1 q1 => ?_, h⟩
  split at q1
  · rename_i k
    split at q1
    · rename_i c fs e
      obtain ⟨hc, y, hy, q1⟩ := q1
      obtain ⟨b, rfl, eb⟩ := r1
      obtain ⟨dx, vs, hx, rf⟩ := h1.obj k b _ eb (moI_eq e)
      obtain ⟨u, hu, ru⟩ := rf.look hy
      obtain ⟨t1, t2⟩ := T c hc
      exact ⟨b, kcl X.K c, dx, vs, u, rfl, hx, t1, t2, hu, vl y m1 w1 H1 u l1 h1 ru q1⟩
    · exact q1.elim
  · exact q1.elim
/-- o.f = e -/
def dSetF (cs : List String) (f : String) (e o : DE) : DS := fun N Ψ ρ m => e ρ m (fun v m1 => o ρ m1 (fun x m2 => match x with
  | .hnd k => match moI m2.M[k]? with
    | some (c, fs) => cs.contains c = true ∧ fs.length < 1000 ∧ N.nx ρ ⟨m2.M.set k (.ins c (putD f v fs)), m2.s⟩
    | none => False
  | _ => False) (Ψ ρ)) (Ψ ρ)
theorem js_fld (T : FldT X.K cs f) (ho : JE X E o Wo) (he : JE X E e We) (hs : swapsWith e (some (.Attribute o (PySem.Str.ofString f) p')) pos.line X.env = pure false := by rfl) : JS X E (.Assign [.Attribute o (PySem.Str.ofString f) p'] e pos) (dSetF cs f We Wo) :=
  PS.imp (ps_fld ho he hs) fun D σ H ⟨w, ρ, m, Ψ, N, a, n, h⟩ => by
  refine ⟨w, ρ, m, Ψ ρ, _, a.at, fun d m1 w1 H1 v l1 h1 r1 q1 => ?_, h⟩
  refine ⟨w1, ρ, m1, Ψ ρ, _, (a.to l1 h1).at, fun x m2 w2 H2 u l2 h2 r2 q2 => ?_, q1⟩
  split at q2
  · rename_i k
    split at q2
    · rename_i c fs e
      obtain ⟨hc, hlen, q2⟩ := q2
      obtain ⟨b, rfl, eb⟩ := r2
      obtain ⟨dx, vs, hx, rf⟩ := h2.obj k b _ eb (moI_eq e)
      obtain ⟨t1, t2⟩ := T c hc
      refine ⟨b, kcl X.K c, dx, vs, rfl, hx, t1, t2, by rw [rf.length]; exact hlen, ?_⟩
      have l12 := l1.trans l2
      exact n.nx ρ _ w2 _ σ l12 (h2.wr (o' := .ins c (putD f d fs)) eb (moI_eq e) (fun z => by cases z) ⟨dx, _, upd_same, RepF.put (Rep.mono l2 _ _ r1) rf⟩) (a.s.mono l12) q2
    · exact q2.elim
  · exact q2.elim
/-- o.f += e, of ints -/
def dAugF (cs : List String) (f : String) (g : Int → Int → Int) (e o : DE) : DS := fun N Ψ ρ m => o ρ m (fun x m1 => match x with
  | .hnd k => match moI m1.M[k]? with
    | some (c, fs) => cs.contains c = true ∧ ∃ i, fs.lookup f = some (.int i) ∧ e ρ m1 (fun y m2 => match y, moI m2.M[k]? with
      | .int j, some (c', fs') => c' = c ∧ fs'.length < 1000 ∧ N.nx ρ ⟨m2.M.set k (.ins c (putD f (.int (g i j)) fs')), m2.s⟩
      | _, _ => False) (Ψ ρ)
    | none => False
  | _ => False) (Ψ ρ)
end
/-! ### methods -/
/-- a method of the class c keeps its worth -/
def OkM (P : Program) (w : World) (K : PySem.W.Frag) (base : Heap) (mg : Str → Option Value) (c : String) (mn : String) (lv : Nat) (ps : List Str) (C : DC) : Prop :=
  ∃ f fd, Cls K (kcl K c) ∧ Meth K (kcl K c) (PySem.Str.ofString mn) f ∧ BA fd ps ∧ FnOk P w K mg base (L2.CX P w) lv f fd ps (spOf K ps.length C)
def OkMs (P : Program) (w : World) (K : PySem.W.Frag) (base : Heap) (mg : Str → Option Value) (mn : String) (lv n : Nat) (tab : List (String × DC)) : Prop :=
  ∀ c C, tab.lookup c = some C → ∃ ps, ps.length = n + 1 ∧ OkM P w K base mg c mn lv ps C
section
variable {P : Program} {w : World} {K : PySem.W.Frag} {base : Heap} {mg : Str → Option Value} {mn : String} {lv n : Nat}
theorem okMs_nil : OkMs P w K base mg mn lv n [] := fun c C h => by cases h
theorem OkM.mono {c : String} {lv' : Nat} {ps : List Str} {C : DC} (h : OkM P w K base mg c mn lv ps C) (l : lv ≤ lv') : OkM P w K base mg c mn lv' ps C := by
  obtain ⟨f, fd, a, b, c, d⟩ := h
  exact ⟨f, fd, a, b, c, d.mono l⟩
theorem okMs_cons {c : String} {lv' : Nat} {ps : List Str} {C : DC} {tab : List (String × DC)} (h : OkM P w K base mg c mn lv' ps C) (hn : ps.length = n + 1) (l : lv' ≤ lv) (r : OkMs P w K base mg mn lv n tab) : OkMs P w K base mg mn lv n ((c, C) :: tab) := fun c' C' e => by
  rw [List.lookup_cons] at e
  cases q : c' == c with
  | true =>
    rw [q] at e
    cases e
    have z := beq_iff_eq.mp q
    subst z
    exact ⟨ps, hn, h.mono l⟩
  | false => rw [q] at e; exact r c' C' e
end
def tMethD (X : Cx) (mn : Str) (E : WX) (ta : TE) (t : TA) : TE := fun σ H Q => ta σ H fun x H1 => ∃ (a C dx : Addr) (fs : List (Str × V)) (f : Addr) (fd : FuncData) (ps : List Str) (sp : Sp) (k : Nat), x = .ref a ∧ H1 a = some (.ins C dx fs) ∧ fs.lookup mn = none ∧
  Cls X.K C ∧ Meth X.K C mn f ∧ FnOk X.prog X.w X.K X.mg X.base (L2.CX X.prog X.w) k f fd ps sp ∧ Room k X.A ∧ BA fd ps ∧ t σ H1 fun vs H2 => sp (x :: vs) H2 Q (WE E σ)
section
variable {X : Cx} {E : WX} {o e : Expr} {es : List Expr} {ta : TE} {t : TA} {mn : Str} {apos pos : Pos}
theorem pe_methD {pl : Sem Bool} (tk : Takes X E) (he : PE X o ta) (ha : PA X (e :: es) t)
    (hst : starEach (e :: es) X.env = (false, eval e X.env) :: starEach es X.env := by rfl) (hpl : (backTo pos (starEach es X.env)).any (·.1) = false := by rfl)
    (ht : eval (.Call (.Attribute o mn apos) (e :: es) [] pos) X.env = (do
      let ov ← eval o X.env
      standAt apos.atName
      let (f, first) ← holding [ov] (getMethod ov mn pl)
      callWith pos f first (backTo pos (starEach (e :: es) X.env)) (backToKw pos (keywordEach [] X.env))) := by rfl) :
    PE X (.Call (.Attribute o mn apos) (e :: es) [] pos) (tMethD X mn E ta t) := by
  refine ⟨fun pins s σ H Q I h => ?_⟩
  refine PySem.W.methodCall_KW (pl := pl) (thn (he.run pins s σ H _ I h) fun u s1 ⟨x, H1, I1, rx, a, C, dx, fs, f, fd, ps, sp, k, ex, ea, l, c, hm, F, hr, hb, q⟩ => ?_) ht
  subst ex
  obtain rfl : u = Value.ref a := rx
  refine getmeth_ok I1 ea c hm l ?_
  refine PySem.W.callWith_K (first := [.ref a]) (h₀ := X.base) I.ok.mod.kin hm.kp (thn (ha.run pos pins s1 σ H1 _ I1 q) fun us s2 ⟨vs, H2, I2, r, q2⟩ => ⟨I2.kIn, ?_⟩) hst hpl
  exact run_fnSD (us := .ref a :: us) (vs := .ref a :: vs) F hr (Binds.all hb) .nil (passAt tk σ) I2 (.cons rfl r) (by rw [List.append_nil]; exact q2)
theorem pe_methD0 {pl : Sem Bool} (tk : Takes X E) (he : PE X o ta)
    (ht : eval (.Call (.Attribute o mn apos) [] [] pos) X.env = (do
      let ov ← eval o X.env
      standAt apos.atName
      let (f, first) ← holding [ov] (getMethod ov mn pl)
      callWith pos f first (backTo pos (starEach [] X.env)) (backToKw pos (keywordEach [] X.env))) := by rfl) :
    PE X (.Call (.Attribute o mn apos) [] [] pos) (tMethD X mn E ta tNil) := by
  refine ⟨fun pins s σ H Q I h => ?_⟩
  refine PySem.W.methodCall_KW (pl := pl) (thn (he.run pins s σ H _ I h) fun u s1 ⟨x, H1, I1, rx, a, C, dx, fs, f, fd, ps, sp, k, ex, ea, l, c, hm, F, hr, hb, q⟩ => ?_) ht
  subst ex
  obtain rfl : u = Value.ref a := rx
  refine getmeth_ok I1 ea c hm l ?_
  exact PySem.W.callWith_K0 (first := [.ref a]) I1.kIn hm.kp (run_fnSD (us := [.ref a]) (vs := [.ref a]) F hr (Binds.all hb) .nil (passAt tk σ) I1 (.cons rfl .nil) q)
end
/-- o.m(..): tab tells each class's worth -/
def dMeth (tab : List (String × DC)) (mn : String) (n : Nat) (o : DE) (r : DA) : DE := fun ρ m Φ Ψ => o ρ m (fun x m1 => match x with
  | .hnd k => match moI m1.M[k]? with
    | some (c, fs) => match tab.lookup c with
      | some C => fs.lookup mn = none ∧ r ρ m1 (fun ds m2 => ds.length = n ∧ C (.hnd k :: ds) m2 Φ Ψ) Ψ
      | none => False
    | none => False
  | _ => False) Ψ
section
variable {X : Cx} {E : WX} {o e : Expr} {es : List Expr} {Wo : DE} {Ws : DA} {mn : String} {apos pos : Pos} {tab : List (String × DC)} {lv n : Nat}
theorem meth_ok {ta : TE} {t : TA} {σ : L2.St} {H : Hp} {Q : VK} (M : OkMs X.prog X.w X.K X.base X.mg mn lv n tab) (hr : Room lv X.A) (h : lift X.K E (dMeth tab mn n Wo Ws) σ H Q) : tMethD X (PySem.Str.ofString mn) E (lift X.K E Wo) (liftA X.K E Ws) σ H Q := by
  obtain ⟨w, ρ, m, Ψ, Φ, a, vl, h⟩ := h
  refine ⟨w, ρ, m, Ψ, _, a, fun x m1 w1 H1 v l1 h1 r1 q1 => ?_, h⟩
  split at q1
  · rename_i k
    split at q1
    · rename_i c fs e
      split at q1
      · rename_i C eC
        obtain ⟨hno, q1⟩ := q1
        obtain ⟨ps, hps, f, fd, c1, c2, b, F⟩ := M c C eC
        obtain ⟨b0, rfl, eb⟩ := r1
        obtain ⟨dx, vs, hx, rf⟩ := h1.obj k b0 _ eb (moI_eq e)
        refine ⟨b0, kcl X.K c, dx, vs, f, fd, ps, _, lv, rfl, hx, rf.none hno, c1, c2, F, hr, b, w1, ρ, m1, Ψ, _, a.to l1 h1, fun ds m2 w2 H2 us l2 h2 r2 q2 => ?_, q1⟩
        obtain ⟨hn, q2⟩ := q2
        have z := call_ok (X := X) (C := C) (n := ps.length) (ds := .hnd k :: ds) (vs := .ref b0 :: us) ((a.to l1 h1).to l2 h2) (vl.mono (l1.trans l2)) ⟨_, _, rfl, ⟨b0, rfl, l2.th _ _ eb⟩, r2⟩ (by rw [List.length_cons, hn, hps]) q2
        rw [List.append_nil] at z
        exact z
      · exact q1.elim
    · exact q1.elim
  · exact q1.elim
theorem je_meth {pl : Sem Bool} (M : OkMs X.prog X.w X.K X.base X.mg mn lv n tab) (tk : Takes X E) (hr : Room lv X.A) (ho : JE X E o Wo) (ha : JA X E (e :: es) Ws)
    (hst : starEach (e :: es) X.env = (false, eval e X.env) :: starEach es X.env := by rfl) (hpl : (backTo pos (starEach es X.env)).any (·.1) = false := by rfl)
    (ht : eval (.Call (.Attribute o (PySem.Str.ofString mn) apos) (e :: es) [] pos) X.env = (do
      let ov ← eval o X.env
      standAt apos.atName
      let (f, first) ← holding [ov] (getMethod ov (PySem.Str.ofString mn) pl)
      callWith pos f first (backTo pos (starEach (e :: es) X.env)) (backToKw pos (keywordEach [] X.env))) := by rfl) :
    JE X E (.Call (.Attribute o (PySem.Str.ofString mn) apos) (e :: es) [] pos) (dMeth tab mn n Wo Ws) := PE.imp (pe_methD (pl := pl) tk ho ha hst hpl ht) fun _ _ _ h => meth_ok (ta := lift X.K E Wo) (t := liftA X.K E Ws) M hr h
theorem je_meth0 {pl : Sem Bool} (M : OkMs X.prog X.w X.K X.base X.mg mn lv 0 tab) (tk : Takes X E) (hr : Room lv X.A) (ho : JE X E o Wo)
    (ht : eval (.Call (.Attribute o (PySem.Str.ofString mn) apos) [] [] pos) X.env = (do
      let ov ← eval o X.env
      standAt apos.atName
      let (f, first) ← holding [ov] (getMethod ov (PySem.Str.ofString mn) pl)
      callWith pos f first (backTo pos (starEach [] X.env)) (backToKw pos (keywordEach [] X.env))) := by rfl) :
    JE X E (.Call (.Attribute o (PySem.Str.ofString mn) apos) [] [] pos) (dMeth tab mn 0 Wo dNil) := PE.imp (pe_methD0 (pl := pl) tk ho ht) fun σ H Q h => by
  obtain ⟨w, ρ, m, Ψ, Φ, a, vl, h⟩ := meth_ok (ta := lift X.K E Wo) (t := liftA X.K E dNil) M hr h
  refine ⟨w, ρ, m, Ψ, Φ, a, fun d m1 w1 H1 v l1 h1 r1 q1 => ?_, h⟩
  obtain ⟨b0, C, dx, vs, f, fd, ps, sp, k, e1, e2, e3, e4, e5, e6, e7, e8, w', ρ', m', Ψ', Φ', a', n', q'⟩ := vl d m1 w1 H1 v l1 h1 r1 q1
  exact ⟨b0, C, dx, vs, f, fd, ps, sp, k, e1, e2, e3, e4, e5, e6, e7, e8, n' [] m' w' _ [] (.refl w') a'.h rfl q'⟩
end
/-! ### C(..) -/
def OkI (P : Program) (w : World) (K : PySem.W.Frag) (mg : Str → Option Value) (base : Heap) (c : String) (lv : Nat) (ps : List Str) (C : DC) : Prop :=
  ∃ f fd, mg (PySem.Str.ofString c) = some (.ref (kcl K c)) ∧ Mk K (kcl K c) f ∧ BA fd ps ∧ FnOk P w K mg base (L2.CX P w) lv f fd ps (spOf K ps.length C)
def dMake (n : Nat) (c : String) (C : DC) (r : DA) : DE := fun ρ m Φ Ψ => r ρ m (fun ds m1 => ds.length = n ∧ C (.hnd m1.M.length :: ds) (m1.push (.ins c [])) (fun d m2 => d = .non ∧ Φ (.hnd m1.M.length) m2) Ψ) Ψ
section
variable {X : Cx} {E : WX} {e : Expr} {es : List Expr} {Ws : DA} {c : String} {p pos : Pos} {lv : Nat} {ps : List Str} {C : DC}
theorem run_makeSD {f : Addr} {fd : FuncData} {A0 : Addr} {k : Nat} {sp : Sp} {E0 : XK} {pins : List (Addr × Obj)} {σ : L2.St} {H : Hp} {s : Shared} {Q : VK} {us : List Value} {vs : List V} (M : Mk X.K A0 f) (F : FnOk X.prog X.w X.K X.mg X.base (L2.CX X.prog X.w) k f fd ps sp) (hr : Room (k + 1) X.A) (hb : BA fd ps)
    (hx : PassesAt (L2.CX X.prog X.w) X σ E0) (I : Inv X pins σ H s) (r : Vals vs us)
    (h : ∀ x dx, H x = none → H dx = none → dx ≠ x → sp (.ref x :: vs) (upd (upd H dx (.own x)) x (.ins A0 dx [])) (fun v H2 => v = .non ∧ Q (.ref x) H2) E0) :
    wpAny (model X.prog X.w) X.A (call (.ref A0) us) (EP X pins σ Q) X.xe s := by
  have hq := h (s.heap.objs.size + 1) s.heap.objs.size (I.hok.fresh (Nat.le_succ _)) (I.hok.fresh (Nat.le_refl _)) (Nat.ne_of_lt (Nat.lt_succ_self _))
  have I2 := Inv.made (C := A0) I
  have r2 : Vals (V.ref (s.heap.objs.size + 1) :: vs) (Value.ref (s.heap.objs.size + 1) :: us) := .cons rfl r
  have hl : (Value.ref (s.heap.objs.size + 1) :: us).length = ps.length := by
    have e := r2.length
    rw [F.len _ _ _ _ hq] at e
    exact e.symm
  have b2 := Binds.all (K := X.K) hb _ (Value.ref (s.heap.objs.size + 1) :: us) I2.kIn (by rw [List.append_nil]; exact hl)
  rw [List.append_nil] at b2
  refine wpAny_call (make_map (f := f) I.kIn M.makes M.init (beq_iff_eq.mp M.fn) (codeAny_mono (F.run _ X.stack _ _ ⟨Value.ref (s.heap.objs.size + 1) :: us, []⟩ (Value.ref (s.heap.objs.size + 1) :: us) _ _ E0 (hr.make A0 us [])
    (I2.env0.make A0 us []) b2 r2 hq) fun r s' hq' => ?_))
  cases r with
  | error e => exact hx pins _ _ e s' I2 hq'
  | ok fl =>
    cases fl with
    | ret u =>
      obtain ⟨v, H', I3, rv, ev, q3⟩ := I2.after hq'
      subst ev
      exact ⟨rv, ⟨V.ref (s.heap.objs.size + 1), H', I3, rfl, q3⟩⟩
    | next => exact False.elim hq'
    | brk => exact False.elim hq'
    | cont => exact False.elim hq'
theorem HRep.make {K : PySem.W.Frag} {w : Wd} {m : MM} {H : Hp} {x dx : Addr} {c : String} (h : HRep K w m H) (hx : H x = none) (hdx : H dx = none) (hne : dx ≠ x) : HRep K (w.add x) (m.push (.ins c [])) (upd (upd H dx (.own x)) x (.ins (kcl K c) dx [])) := by
  have h1 : HRep K w m (upd H dx (.own x)) := h.ex (ex_new hdx)
  have hx1 : upd H dx (.own x) x = none := by rw [upd_ne (Ne.symm hne)]; exact hx
  exact h1.add hx1 ⟨dx, [], upd_same, rfl⟩
theorem make_sp {w : Wd} {ρ : Dl.Env} {m : MM} {Ψ : XP} {Φ : D → MM → Prop} {σ : L2.St} {H : Hp} {Q : VK} {ds : List D} {vs : List V} {x dx : Addr} (a : At X.K E w σ H ρ m Ψ) (vl : VLift X.K w Q Φ) (r : RepAll X.K w ds vs) (hn : ds.length + 1 = ps.length)
    (q : C (.hnd m.M.length :: ds) (m.push (.ins c [])) (fun d m2 => d = .non ∧ Φ (.hnd m.M.length) m2) Ψ) (hx : H x = none) (hdx : H dx = none) (hne : dx ≠ x) :
    spOf X.K ps.length C (.ref x :: vs) (upd (upd H dx (.own x)) x (.ins (kcl X.K c) dx [])) (fun v H2 => v = .non ∧ Q (.ref x) H2) (WE E σ) := by
  refine ⟨by rw [List.length_cons, r.length]; exact hn, w.add x, .hnd m.M.length :: ds, m.push (.ins c []), _, Ψ, HRep.make a.h hx hdx hne, ⟨_, _, rfl, rep_add a.h, RepAll.mono Wd.le_add _ _ r⟩, ?_, ?_, q⟩
  · rintro d m' w' H' v l h' rd ⟨rfl, q'⟩
    refine ⟨rd, vl (.hnd m.M.length) m' w' H' _ (Wd.le_add.trans l) h' ?_ q'⟩
    exact Rep.mono l _ _ (rep_add a.h)
  · intro C' fs m' w' H' d xs l h b cc q
    exact a.x C' fs m' w' H' d xs (Wd.le_add.trans l) h b cc q
theorem je_make (G : OkI X.prog X.w X.K X.mg X.base c lv ps C) (tk : Takes X E) (hr : Room (lv + 1) X.A) (hg : Gl X (PySem.Str.ofString c)) (ha : JA X E (e :: es) Ws) (n : Nat) (hn : ps.length = n + 1 := by rfl) (hdb : (PySem.Str.ofString c == ("__debug__" : Str)) = false := by decide)
    (he : starEach (e :: es) X.env = (false, eval e X.env) :: starEach es X.env := by rfl) (hpl : (backTo pos (starEach es X.env)).any (·.1) = false := by rfl) : JE X E (.Call (.Name (PySem.Str.ofString c) p) (e :: es) [] pos) (dMake n c C Ws) := by
  obtain ⟨f, fd, hm, M, b, F⟩ := G
  refine ⟨fun pins s σ H Q I h => ?_⟩
  obtain ⟨w, ρ, m, Ψ, Φ, a, vl, h⟩ := h
  refine wpAny_Call_Name_kw (ld_glob I hg hm ?_ hdb)
  refine PySem.W.callWith_K (h₀ := X.base) I.ok.mod.kin M.kp (thn (ha.run pos pins s σ H (fun vs H1 => ∃ (w1 : Wd) (ds : List D) (m1 : MM), w.le w1 ∧ HRep X.K w1 m1 H1 ∧ RepAll X.K w1 ds vs ∧ ds.length = n ∧ C (.hnd m1.M.length :: ds) (m1.push (.ins c [])) (fun d m2 => d = .non ∧ Φ (.hnd m1.M.length) m2) Ψ) I
    ⟨w, ρ, m, Ψ, _, a, fun ds m1 w1 H1 vs l1 h1 r1 q1 => ⟨w1, ds, m1, l1, h1, r1, q1.1, q1.2⟩, h⟩) fun us s1 ⟨vs, H1, I1, r, w1, ds, m1, l1, h1, r1, hl, q1⟩ => ⟨I1.kIn, ?_⟩) he hpl
  exact run_makeSD M F hr b (passAt tk σ) I1 r fun x dx hx hdx hne => make_sp (a.to l1 h1) (vl.mono l1) r1 (by omega) q1 hx hdx hne
end
/-! ### a def's own objects let go, others changed -/
def kept (m0 : MM) (M1 : List MO) : Prop := M1.length = m0.M.length ∧ ∀ (i : Nat) o, M1[i]? = some o → m0.M[i]? = some o ∨ clO m0.M.length o = true
theorem kept.rfl {m : MM} : kept m m.M := ⟨_root_.rfl, fun _ _ h => .inl h⟩
theorem kept.set {m : MM} {M1 : List MO} {k : Nat} {o : MO} (h : kept m M1) (c : clO m.M.length o = true) : kept m (M1.set k o) := by
  refine ⟨by rw [List.length_set]; exact h.1, fun i o' e => ?_⟩
  by_cases hi : k = i
  · subst hi
    by_cases hl : k < M1.length
    · rw [List.getElem?_set_self hl] at e
      cases e; exact .inr c
    · rw [List.getElem?_eq_none (by rw [List.length_set]; omega)] at e; cases e
  · rw [List.getElem?_set_ne hi] at e
    exact h.2 i o' e
def retQ (m0 : MM) (Φ : D → MM → Prop) : D → MM → Prop := fun d m' => ∃ M1 L d', m'.M = M1 ++ L ∧ kept m0 M1 ∧ (d' = d ∨ ∃ j ds, d = .hnd (m0.M.length + j) ∧ L[j]? = some (.lst ds) ∧ d' = .lst ds) ∧ clD m0.M.length d' = true ∧ Φ d' ⟨M1, m'.s⟩
def retX (m0 : MM) (Ψ : XP) : XP := fun c fs m' => ∃ M1 L, m'.M = M1 ++ L ∧ kept m0 M1 ∧ clF m0.M.length fs = true ∧ Ψ c fs ⟨M1, m'.s⟩
section
variable {P : Program} {w : World} {K : PySem.W.Frag} {mg : Str → Option Value} {base : Heap}
theorem cut_kept {w0 : Wd} {m : MM} {H0 H' : Hp} {w2 : Wd} {m2 : MM} {M1 L : List MO} (h0 : HRep K w0 m H0) (h2 : HRep K w2 m2 H') (e : m2.M = M1 ++ L) (k : kept m M1) : HRep K (w2.cut m.M.length) ⟨M1, m2.s⟩ H' := by
  have et : m2.M.take m.M.length = M1 := by rw [e, ← k.1, List.take_left' rfl]
  have z := h2.cut (n := m.M.length) fun o ho => by
    rw [et] at ho
    obtain ⟨i, hi, rfl⟩ := List.mem_iff_getElem.mp ho
    rcases k.2 i _ (List.getElem?_eq_getElem hi) with q | q
    · exact h0.cls _ (List.mem_of_getElem? q)
    · exact q
  have em : m2.cut m.M.length = ⟨M1, m2.s⟩ := by
    show (⟨m2.M.take m.M.length, m2.s⟩ : MM) = _
    rw [et]
  rw [em] at z
  exact z
theorem okDQ {x qual : Str} {st : Stmt} {f : Addr} {fd : FuncData} {N ps : List Str} {k : Nat} {C : DC} {W : DS} (F : Fun K x qual st f fd) (S : FnScope N ps (defScope st))
    (hb : ∀ (cdv : Value) (A : Around) (outer : List PySem.Env) (s : Shared) (H : Hp) (E : XK), Room k (A.deeper (envOfC qual (defScope st) s.heap.objs.size f cdv)) → JSs (cxOf (L2.CX P w) P w K mg base N qual (defScope st) f cdv A outer s H E) (wishE E) (defBody st) W)
    (hC : ∀ ds m Φ Ψ, ds.length = ps.length → C ds m Φ Ψ → W { nx := fun _ m' => retQ m Φ .non m', rt := retQ m Φ } (fun _ => retX m Ψ) (ds.map some ++ List.replicate (N.length - ds.length) none) m) :
    FnOk P w K mg base (L2.CX P w) (k + 1) f fd ps (spOf K ps.length C) := by
  refine F.okX S (fun vs H Q E h => h.1) fun cdv A outer s H vs Q E hr h => ⟨_, hb cdv A outer s H E hr, ?_⟩
  obtain ⟨hl, w0, ds, m, Φ, Ψ, h0, r, vl, xl, c⟩ := h
  have hd : ds.length = ps.length := r.length.symm.trans hl
  have hlen : w0.th.length = m.M.length := h0.len
  refine ⟨w0, _, m, fun _ => retX m Ψ, _, ⟨h0, slots_start r, fun ρ σ w1 l1 _ C fs m' w' H' d xs l a b c q => ?_⟩, ?_, hC ds m Φ Ψ hd c⟩
  · obtain ⟨M1, L, e, kp, hcl, q⟩ := q
    exact xl C fs ⟨M1, m'.s⟩ (w'.cut m.M.length) H' d xs (Wd.le_cut (l1.trans l) (Nat.le_of_eq hlen)) (cut_kept h0 a e kp) b (RepF.cut _ _ c hcl) q
  have fin : VLift K w0 Q (retQ m Φ) := fun d m' w' H' v l h' rd ⟨M1, L, d', e, kp, hd', hcl, q⟩ => by
    rcases hd' with rfl | ⟨j, es', rfl, ej, rfl⟩
    · exact vl _ _ _ H' v (Wd.le_cut l (Nat.le_of_eq hlen)) (cut_kept h0 h' e kp) (Rep.cut _ _ rd hcl) q
    · obtain ⟨a, rfl, q2⟩ := rd
      have em : m'.M[m.M.length + j]? = some (.lst es') := by
        rw [e, ← kp.1, List.getElem?_append_right (Nat.le_add_right _ _), Nat.add_sub_cancel_left]; exact ej
      obtain ⟨xs, fa, hx, rr, hf⟩ := h'.frz q2 em
      refine vl (.lst es') ⟨M1, m'.s⟩ ((w'.put a (.lst xs)).cut m.M.length) H' _ (Wd.le_cut (l.trans (Wd.le_put fa)) (Nat.le_of_eq hlen)) (cut_kept (m2 := ⟨m'.M.set (m.M.length + j) .dead, m'.s⟩) (L := L.set j .dead) h0 hf ?_ kp) ?_ q
      · show m'.M.set (m.M.length + j) .dead = _
        rw [e, ← kp.1, List.set_append_right _ _ (Nat.le_add_right _ _), Nat.add_sub_cancel_left]
      · exact ⟨a, xs, rfl, upd_same, RepAll.cut _ _ (RepAll.mono (Wd.le_put fa) _ _ rr) hcl⟩
  exact ⟨fun ρ m' w' H' σ l h' _ q => fin .non m' w' H' _ l h' rfl q, fin, fun _ _ _ _ _ _ _ _ q => q.elim, fun _ _ _ _ _ _ _ _ q => q.elim⟩
end
/-! ### what the top must say of the classes -/
/-- a method as the top has written it -/
def MthT (K : PySem.W.Frag) (c mn : String) (q : Str) (st : Stmt) (ps : List Str) : Prop := ∃ f fd, Fun K (PySem.Str.ofString mn) q st f fd ∧ Cls K (kcl K c) ∧ Meth K (kcl K c) (PySem.Str.ofString mn) f ∧ BA fd ps
theorem mthT_mk {K : PySem.W.Frag} {c mn : String} {q : Str} {st : Stmt} {ps : List Str} {C f : Addr} {od an : Option Addr} {sl : Array (Option Value)} {oc kV dc pm cd ct : Value}
    (a : PySem.W.nsIn K mainGlobals (PySem.Str.ofString c) = some (some (.ref C))) (k1 : PySem.W.plainGet K C Str.empty = true) (k2 : PySem.W.hasDictIn K C = true) (k3 : PySem.W.plainOver K C = true) (k4 : PySem.W.findIn K (.ref C) "__setattr__" = some (some (.builtin "object.__setattr__")))
    (m1 : PySem.W.findIn K (.ref C) (PySem.Str.ofString mn) = some (some (.ref f))) (m2 : PySem.W.isFn K (.ref f) = true)
    (l : K.lookup f = some ⟨oc, od, .func (PySem.W.fnOf (PySem.Str.ofString mn) q (defArgs st) (defBody st) (defScope st) .none kV dc pm an cd ct), sl⟩) (cc : PySem.W.codeIn K cd q = true) (k : PySem.W.keepIn K (.ref f) = true)
    (b : ∀ (kV doc pm : Value) (an : Option Addr) (cdv ct : Value) (us : List Value), us.length = ps.length → bindArgs (PySem.W.fnOf (PySem.Str.ofString mn) q (defArgs st) (defBody st) (defScope st) .none kV doc pm an cdv ct) ⟨us, []⟩ = pure (ps.zip us)) : MthT K c mn q st ps := by
  refine ⟨f, _, fun_mk l cc k, ?_, ?_, b kV dc pm an cd ct⟩
  · rw [kcl_of a]; exact ⟨k1, k2, k3, k4⟩
  · rw [kcl_of a]; exact ⟨m1, m2, k⟩
/-- a class's __init__ as the top has written it -/
def IniT (K : PySem.W.Frag) (mg : Str → Option Value) (c : String) (q : Str) (st : Stmt) (ps : List Str) : Prop := ∃ f fd, Fun K "__init__" q st f fd ∧ mg (PySem.Str.ofString c) = some (.ref (kcl K c)) ∧ Mk K (kcl K c) f ∧ BA fd ps
theorem iniT_mk {K : PySem.W.Frag} {h : Heap} {mg : Str → Option Value} {c : String} {q : Str} {st : Stmt} {ps : List Str} {C f : Addr} {od an : Option Addr} {sl : Array (Option Value)} {oc kV dc pm cd ct : Value} (X : K.In h) (G : h.Ns mainGlobals mg)
    (a : PySem.W.nsIn K mainGlobals (PySem.Str.ofString c) = some (some (.ref C))) (k1 : PySem.W.makesIn K C = true) (k2 : PySem.W.findIn K (.ref C) "__init__" = some (some (.ref f))) (k3 : PySem.W.isFn K (.ref f) = true) (k4 : PySem.W.keepIn K (.ref C) = true)
    (l : K.lookup f = some ⟨oc, od, .func (PySem.W.fnOf "__init__" q (defArgs st) (defBody st) (defScope st) .none kV dc pm an cd ct), sl⟩) (cc : PySem.W.codeIn K cd q = true) (k : PySem.W.keepIn K (.ref f) = true)
    (b : ∀ (kV doc pm : Value) (an : Option Addr) (cdv ct : Value) (us : List Value), us.length = ps.length → bindArgs (PySem.W.fnOf "__init__" q (defArgs st) (defBody st) (defScope st) .none kV doc pm an cdv ct) ⟨us, []⟩ = pure (ps.zip us)) : IniT K mg c q st ps := by
  refine ⟨f, _, fun_mk l cc k, ?_, ?_, b kV dc pm an cd ct⟩
  · rw [kcl_of a]; exact PySem.W.mg_of X G a
  · rw [kcl_of a]; exact ⟨k1, k2, k3, k4⟩
end Dl

namespace Dl
open PySem L2 PyProof.Rows
section
variable {X : Cx} {E : WX}
end
/-! ### == where a side may be a list that changes -/
def deref (m : MM) : D → D
  | .hnd k => match moL m.M[k]? with
    | some ds => .lst ds
    | none => .hnd k
  | d => d
def oEqH : DO := fun x y m Φ => okE 64 (deref m x) = true ∧ okE 64 (deref m y) = true ∧ Φ (.bl (eqD (deref m x) (deref m y))) m
def oNeH : DO := fun x y m Φ => okE 64 (deref m x) = true ∧ okE 64 (deref m y) = true ∧ Φ (.bl (!eqD (deref m x) (deref m y))) m
/-- list(x), a list that changes later -/
def cListM : DCB := fun ds m Φ => match ds with
  | [d] => match asL m d with
    | some xs => Φ (.hnd m.M.length) (m.push (.lst xs))
    | none => match asT d with
      | some xs => Φ (.hnd m.M.length) (m.push (.lst xs))
      | none => False
  | _ => False
def cAll : DCB := fun ds m Φ => match ds with
  | [d] => match asL m d with
    | some xs => ∃ bs, blsD xs = some bs ∧ Φ (.bl (bs.all id)) m
    | none => False
  | _ => False
theorem cbl_all {K : PySem.W.Frag} : CbL K (rAll K) cAll := fun w m H ds vs Q Φ h r vl q => by
  unfold cAll at q
  split at q
  · obtain ⟨v, rfl, rv⟩ := rep1 r
    split at q
    · rename_i e
      obtain ⟨ns, e2, q⟩ := q
      obtain ⟨a, us, rfl, ha, ra⟩ := asL_ok h e rv
      exact ⟨a, ns, rfl, by rw [← bls_ok e2 ra]; exact ha, vl.bl h q⟩
    · exact q.elim
  · exact q.elim
def cTuple : DCB := fun ds m Φ => match ds with
  | [d] => match asL m d with
    | some xs => Φ (.tup xs) m
    | none => match asT d with
      | some _ => Φ d m
      | none => False
  | _ => False
-- kit_all
theorem kq_NoneType_int : kitB "NoneType" "int" = some false := by decide +kernel
theorem kq_NoneType_bool : kitB "NoneType" "bool" = some false := by decide +kernel
theorem kq_NoneType_list : kitB "NoneType" "list" = some false := by decide +kernel
theorem kq_NoneType_tuple : kitB "NoneType" "tuple" = some false := by decide +kernel
theorem kq_NoneType_str : kitB "NoneType" "str" = some false := by decide +kernel
theorem kq_bool_int : kitB "bool" "int" = some true := by decide +kernel
theorem kq_bool_bool : kitB "bool" "bool" = some true := by decide +kernel
theorem kq_bool_list : kitB "bool" "list" = some false := by decide +kernel
theorem kq_bool_tuple : kitB "bool" "tuple" = some false := by decide +kernel
theorem kq_bool_str : kitB "bool" "str" = some false := by decide +kernel
theorem kq_int_int : kitB "int" "int" = some true := by decide +kernel
theorem kq_int_bool : kitB "int" "bool" = some false := by decide +kernel
theorem kq_int_list : kitB "int" "list" = some false := by decide +kernel
theorem kq_int_tuple : kitB "int" "tuple" = some false := by decide +kernel
theorem kq_int_str : kitB "int" "str" = some false := by decide +kernel
theorem kq_str_int : kitB "str" "int" = some false := by decide +kernel
theorem kq_str_bool : kitB "str" "bool" = some false := by decide +kernel
theorem kq_str_list : kitB "str" "list" = some false := by decide +kernel
theorem kq_str_tuple : kitB "str" "tuple" = some false := by decide +kernel
theorem kq_str_str : kitB "str" "str" = some true := by decide +kernel
theorem kq_list_int : kitB "list" "int" = some false := by decide +kernel
theorem kq_list_bool : kitB "list" "bool" = some false := by decide +kernel
theorem kq_list_list : kitB "list" "list" = some true := by decide +kernel
theorem kq_list_tuple : kitB "list" "tuple" = some false := by decide +kernel
theorem kq_list_str : kitB "list" "str" = some false := by decide +kernel
theorem kq_tuple_int : kitB "tuple" "int" = some false := by decide +kernel
theorem kq_tuple_bool : kitB "tuple" "bool" = some false := by decide +kernel
theorem kq_tuple_list : kitB "tuple" "list" = some false := by decide +kernel
theorem kq_tuple_tuple : kitB "tuple" "tuple" = some true := by decide +kernel
theorem kq_tuple_str : kitB "tuple" "str" = some false := by decide +kernel
/-! ### plain data -/
mutual
def plD : D → Bool
  | .non => true
  | .bl _ => true
  | .int _ => true
  | .str x => PyData.strOk x
  | .lst ds => plDs ds
  | .tup ds => plDs ds
  | _ => false
def plDs : List D → Bool
  | [] => true
  | d :: ds => plD d && plDs ds
end
theorem plDs_of : ∀ {ds : List D}, (∀ d ∈ ds, plD d = true) → plDs ds = true
  | [], _ => rfl
  | e :: ds, h => by
    show (plD e && plDs ds) = true
    rw [h e List.mem_cons_self, plDs_of fun d hd => h d (List.mem_cons_of_mem _ hd)]; rfl
mutual
theorem okE_mono : ∀ (d : D) {n k : Nat}, okE n d = true → n ≤ k → okE k d = true
  | .non, _, _, _, _ => rfl
  | .bl _, _, _, _, _ => rfl
  | .int _, _, _, _, _ => rfl
  | .str _, _, _, h, _ => h
  | .lst ds, n, k, h, l => by
    have h : (decide (0 < n) && okEs (n - 1) ds) = true := h
    rw [Bool.and_eq_true] at h
    have h0 := of_decide_eq_true h.1
    show (decide (0 < k) && okEs (k - 1) ds) = true
    rw [decide_eq_true (by omega), okEs_mono ds h.2 (by omega)]; rfl
  | .rol ds, n, k, h, l => by
    have h : (decide (0 < n) && okEs (n - 1) ds) = true := h
    rw [Bool.and_eq_true] at h
    have h0 := of_decide_eq_true h.1
    show (decide (0 < k) && okEs (k - 1) ds) = true
    rw [decide_eq_true (by omega), okEs_mono ds h.2 (by omega)]; rfl
  | .tup ds, n, k, h, l => by
    have h : (decide (0 < n) && okEs (n - 1) ds) = true := h
    rw [Bool.and_eq_true] at h
    have h0 := of_decide_eq_true h.1
    show (decide (0 < k) && okEs (k - 1) ds) = true
    rw [decide_eq_true (by omega), okEs_mono ds h.2 (by omega)]; rfl
  | .rot ds, n, k, h, l => by
    have h : (decide (0 < n) && okEs (n - 1) ds) = true := h
    rw [Bool.and_eq_true] at h
    have h0 := of_decide_eq_true h.1
    show (decide (0 < k) && okEs (k - 1) ds) = true
    rw [decide_eq_true (by omega), okEs_mono ds h.2 (by omega)]; rfl
  | .ty _, _, _, h, _ => nomatch h
  | .cls _, _, _, h, _ => nomatch h
  | .hnd _, _, _, h, _ => nomatch h
  | .st _, _, _, h, _ => nomatch h
  | .exc _ _ _ _, _, _, h, _ => nomatch h
theorem okEs_mono : ∀ (ds : List D) {n k : Nat}, okEs n ds = true → n ≤ k → okEs k ds = true
  | [], _, _, _, _ => rfl
  | d :: ds, n, k, h, l => by
    have h : (okE n d && okEs n ds) = true := h
    rw [Bool.and_eq_true] at h
    show (okE k d && okEs k ds) = true
    rw [okE_mono d h.1 l, okEs_mono ds h.2 l]; rfl
end
mutual
theorem clD_pl {n : Nat} : ∀ (d : D), plD d = true → clD n d = true
  | .non, _ => rfl
  | .bl _, _ => rfl
  | .int _, _ => rfl
  | .str _, _ => rfl
  | .lst ds, h => clAll_pl ds h
  | .tup ds, h => clAll_pl ds h
theorem clAll_pl {n : Nat} : ∀ (ds : List D), plDs ds = true → clAll n ds = true
  | [], _ => rfl
  | d :: ds, h => by
    have h : (plD d && plDs ds) = true := h
    rw [Bool.and_eq_true] at h
    show (clD n d && clAll n ds) = true
    rw [clD_pl d h.1, clAll_pl ds h.2]; rfl
end
/-- data are like themselves -/
theorem eqD_self {d : D} {n : Nat} (o : okE n d = true) : eqD d d = true := SeqAt.eqv_refl _ (okE_lay d n o).1
theorem app_len {M : List MO} {o : MO} : (M ++ [o])[M.length]? = some o := by rw [List.getElem?_append_right (Nat.le_refl _)]; simp
theorem set_app {M : List MO} {o z : MO} : (M ++ [o]).set M.length z = M ++ [z] := by rw [List.set_append_right _ _ (Nat.le_refl _)]; simp
theorem retQ_lst {m : MM} {Φ : D → MM → Prop} {xs : List D} (hc : clAll m.M.length xs = true) (q : Φ (.lst xs) m) : retQ m Φ (.hnd m.M.length) ⟨m.M ++ [.lst xs], m.s⟩ := ⟨m.M, [.lst xs], .lst xs, rfl, kept.rfl, .inr ⟨0, xs, rfl, rfl, rfl⟩, hc, q⟩
/-! ### repr of None too -/
def cRepr2 : DCB := fun ds m Φ => match ds with
  | [.non] => Φ (.str (PySem.Str.ofString "None")) m
  | ds => cRepr ds m Φ
def rRepr2 (K : PySem.W.Frag) : List V → Hp → VK → Prop := fun xs H Q => (xs = [.non] ∧ Q (.str (PySem.Str.ofString "None")) H) ∨ rRepr K xs H Q
theorem cbl_repr2 {K : PySem.W.Frag} : CbL K (rRepr2 K) cRepr2 := fun w m H ds vs Q Φ h r vl q => by
  unfold cRepr2 at q
  split at q
  · obtain ⟨v, rfl, rv⟩ := rep1 r
    cases (show v = V.non from rv)
    exact .inl ⟨rfl, vl.str h q⟩
  · exact .inr (cbl_repr w m H ds vs Q Φ h r vl q)
theorem callR_repr2 {X : Cx} (hg : X.A.guards = some []) (hu : X.A.units + 100 < cLine) : CallR X (.builtin "repr") (rRepr2 X.K) := by
  rintro pins s σ H xs us Q I rs (⟨rfl, q⟩ | q)
  · cases rs with
    | cons r rs =>
      cases rs
      cases r
      refine PySem.call_repr_slot (v := .none) (T := "NoneType") (idr := "NoneType.__repr__") (by omega) rfl PySem.F.slot_NoneType_repr.toG ?_
      refine PySem.call_gives PySem.F.slot_NoneType_repr rfl PySem.F.entry_NoneType_repr (PySem.F.args_NoneType_repr_1 _) PySem.gives_none_repr ⟨by rw [sizeLine_eq]; decide +kernel, ?_⟩
      exact ⟨_, _, rfl, .str (PySem.Str.ofString "None"), H, I.tok _, ⟨_, rfl⟩, q⟩
  · exact callR_repr hg hu pins s σ H xs us Q I rs q
section
variable {X : Cx} {E : WX} {a : Expr} {Wa : DE} {pos : Pos}
/-- a slice of a tuple, not the whole of it -/
def dSlT (a : DE) (lo hi : DPt) : DE := fun ρ m Φ Ψ => a ρ m (fun d m1 => lo ρ m1 (fun l m2 => hi ρ m2 (fun u m3 => match d with
  | .tup ds => ¬ (HT.sIx ds.length 0 l = 0 ∧ HT.sIx ds.length ds.length u = ds.length) ∧ Φ (.tup (cutD ds l u)) m3
  | _ => False) Ψ) Ψ) Ψ
end
end Dl

namespace Dl
open PySem L2
/-! ### a def that stands under another name; targets that are fields -/
section
variable {X : Cx} {E : WX} {o : Expr} {Wo : DE} {pos : Pos} {js : List Nat}
/-- o.f as a target -/
def dgFld (cs : List String) (f : String) (o : DE) : DG := fun d ρ m k => o ρ m (fun x m2 => match x with
  | .hnd i => match moI m2.M[i]? with
    | some (c, fs) => cs.contains c = true ∧ fs.length < 1000 ∧ k ρ ⟨m2.M.set i (.ins c (putD f d fs)), m2.s⟩
    | none => False
  | _ => False) XF
abbrev DGs := List D → Env → MM → (Env → MM → Prop) → Prop
def dgsNil : DGs := fun ds ρ m k => match ds with
  | [] => k ρ m
  | _ => False
def dgsCons (g : DG) (r : DGs) : DGs := fun ds ρ m k => match ds with
  | d :: ds => g d ρ m (fun ρ1 m1 => r ds ρ1 m1 k)
  | [] => False
theorem PGs.imp {ts : List Expr} {t t' : TGs} (h : PGs X ts t) (i : ∀ vs σ H Q, t' vs σ H Q → t vs σ H Q) : PGs X ts t' := ⟨fun pins s σ H vs us Q I r q => h.run pins s σ H vs us Q I r (i vs σ H Q q)⟩
def dgTupG (n : Nat) (G : DGs) : DG := fun d ρ m k => match asT d with
  | some ds => ds.length = n ∧ G ds ρ m k
  | none => False
end
end Dl

namespace Dl
open PySem L2
/-! ### a comprehension whose items change the store; [x] * n as a changing list -/
section
variable {X : Cx} {E : WX}
end
end Dl

namespace Dl
open PySem L2
/-! ### a changing list by a comprehension whose items change the store -/
section
variable {X : Cx} {E : WX}
end
end Dl

namespace Dl
open PySem L2
/-! ### a walk over a tuple -/
section
variable {X : Cx} {E : WX}
end
end Dl


namespace Dl
open PySem L2
local macro_rules | `(tactic| walk_at "dl") => `(tactic| try simp only [dSeq, dSet, dRaise_one, dRaise_two, dTryAs, dXf, dIsE, List.lookup_cons, List.lookup_nil, beq_self_eq_true, Bool.false_eq_true, if_false, dOp, dUn, dVar, dC, dCB, dCons, dNil, dRet, dRetN, dIf, dB, dAnd, dOr, dNot, dDrop, dNext, dMethL, dSetIx, dAndV, dOrV, dNotV, dBlV, dIfE, dLst, dTup, dLstM, dCall, dChain, dAsg, dgName, dgTup, bindD, asT, dFor, diList, diRng1, diRng2, diEnumerate, diZip, diReversed, dLc, dLcM, dYes, wipeD, dAug, dSl, dSlT, dpN, dpS,
  oI, oI0, oB0, oAdd, oNeg, oEq, oNe, oIx, oIsN, oNotN, isNon, oShl, oApp, oPop, oPopAt, cLen, cInt, cAbs, cSum, cMax2, cMin2, cList, cIsi, tyD, asL, asF, asK, moL_lst, ModC, DivC,
  List.getElem?_cons_zero, List.getElem?_cons_succ, List.set_cons_zero, List.set_cons_succ, List.getElem?_nil, List.length_cons, List.length_nil, List.length_map, Option.map_some, Option.bind_some, Option.isSome_some, if_true, true_and, and_true, MM.push])
local macro_rules | `(tactic| walk_at "dx") => `(tactic| try simp only [eq_self_iff_true, okE_int, okE_bl, okE_non, eqD_int, eqD_bl, kq_NoneType_int, kq_NoneType_bool, kq_NoneType_list, kq_NoneType_tuple, kq_NoneType_str, kq_bool_int, kq_bool_bool, kq_bool_list, kq_bool_tuple, kq_bool_str, kq_int_int, kq_int_bool, kq_int_list, kq_int_tuple, kq_int_str, kq_str_int, kq_str_bool, kq_str_list, kq_str_tuple, kq_str_str, kq_list_int, kq_list_bool, kq_list_list, kq_list_tuple, kq_list_str, kq_tuple_int, kq_tuple_bool, kq_tuple_list, kq_tuple_tuple, kq_tuple_str, oInL, oIsB, oNotB, oEqH, oNeH, oShr, oExt, cMaxL, cMinL, cAny, cAll, cTuple, cListM, dRevL, dFld, dSetF, dAugF, dMeth, dMake, moI_ins, app_len, set_app, List.contains_cons, List.contains_nil, Bool.true_or,  Bool.true_eq_false, decide_true, not_true_eq_false, not_false_eq_true, Bool.not_true, Bool.not_false, decide_eq_true_eq, Bool.not_eq_true', decide_eq_false_iff_not, dSeq, dSet, dRaise_one, dRaise_two, dTryAs, dXf, dIsE, List.lookup_cons, List.lookup_nil, beq_self_eq_true, Bool.false_eq_true, if_false, dOp, dUn, dVar, dC, dCB, dCons, dNil, dRet, dRetN, dIf, dB, dAnd, dOr, dNot, dDrop, dNext, dMethL, dSetIx, dAndV, dOrV, dNotV, dBlV, dIfE, dLst, dTup, dLstM, dCall, dChain, dAsg, dgName, dgTup, bindD, asT, dFor, diList, diRng1, diRng2, diEnumerate, diZip, diReversed, dLc, dLcM, dYes, wipeD, dAug, dSl, dSlT, dpN, dpS,
  oI, oI0, oB0, oAdd, oNeg, oEq, oNe, oIx, oIsN, oNotN, isNon, oShl, oApp, oPop, oPopAt, cLen, cInt, cAbs, cSum, cMax2, cMin2, cList, cIsi, tyD, asL, asF, asK, moL_lst, ModC, DivC,
  List.getElem?_cons_zero, List.getElem?_cons_succ, List.set_cons_zero, List.set_cons_succ, List.getElem?_nil, List.length_cons, List.length_nil, List.length_map, Option.map_some, Option.bind_some, Option.isSome_some, if_true, true_and, and_true, MM.push])
local macro_rules | `(tactic| walk_at "lim") => `(tactic| repeat (first | (refine ⟨by decide, ?_⟩) | (refine ⟨by (try simp only [List.length_map, List.length_dropLast, List.length_append, List.length_cons, List.length_nil, List.length_replicate, List.length_take, List.length_drop, List.length_range]); (show _ ≤ 16777216); omega, ?_⟩)))

set_option hygiene false in
local macro_rules | `(tactic| walk_at "stp") => `(tactic| (refine dSeq_k fun k1 h1 => ?_; walk_at "dx"))
set_option hygiene false in
local macro_rules | `(tactic| walk_at "nxt") => `(tactic| (subst h1; (try dsimp only); refine dSeq_k fun k1 h1 => ?_; walk_at "dx"))
set_option hygiene false in
local macro_rules | `(tactic| walk_at "lst") => `(tactic| (subst h1; (try dsimp only); walk_at "dx"))
set_option hygiene false in
local macro_rules | `(tactic| walk_at "nxt2") => `(tactic| (subst h2; (try dsimp only); refine dSeq_k fun k2 h2 => ?_; walk_at "dx"))
set_option hygiene false in
local macro_rules | `(tactic| walk_at "stp2") => `(tactic| (refine dSeq_k fun k2 h2 => ?_; walk_at "dx"))
set_option hygiene false in
local macro_rules | `(tactic| walk_at "lst2") => `(tactic| (subst h2; (try dsimp only); walk_at "dx"))

/-! ### defs of the program that many laws reach -/
def PM (p : Int) : Prop := 2 ≤ p ∧ p ≤ 2147483647
theorem mod_in {p : Int} (hp : 2 ≤ p) {z : Int} : 0 ≤ z % p ∧ z % p < p := ⟨Int.emod_nonneg _ (by omega), Int.emod_lt_of_pos _ (by omega)⟩
theorem Cg.eq {p a b : Int} (h : Cg p a b) (a0 : 0 ≤ a ∧ a < p) (b0 : 0 ≤ b ∧ b < p) : a = b := by
  unfold Cg at h
  rw [Int.emod_eq_of_lt a0.1 a0.2, Int.emod_eq_of_lt b0.1 b0.2] at h
  exact h
def C_power : DC := fun ds m Φ _ => ∃ (b p : Int) (e : Nat), ds = [.int b, .int e, .int p] ∧ PM p ∧ Φ (.int (b ^ e % p)) m
def W_power : DS := dSeq (dSet 3 (dOp oMod (dC (.int 1)) (dVar 2))) (dSeq (dSet 4 (dOp oMod (dVar 0) (dVar 2))) (dSeq (dWhile (dB (dOp oGt (dVar 1) (dC (.int 0)))) (dSeq (dIf (dB (dOp oEq (dOp oMod (dVar 1) (dC (.int 2))) (dC (.int 1)))) (dSet 3 (dOp oMod (dOp oMul (dVar 3) (dVar 4)) (dVar 2))) (dNext)) (dSeq (dSet 4 (dOp oMod (dOp oMul (dVar 4) (dVar 4)) (dVar 2))) (dAug 1 (oI CDiv fun i j => i / j) (dC (.int 2)))))) (dRet (dVar 3))))
theorem rd_power : ∀ ds m Φ Ψ, ds.length = 3 → C_power ds m Φ Ψ → W_power { nx := fun _ m' => Φ .non m', rt := Φ } (fun _ => Ψ) (ds.map some ++ List.replicate (5 - ds.length) none) m := by
  intro ds m Φ Ψ _ h
  obtain ⟨b, p, e, rfl, ⟨hp, hp2⟩, q⟩ := h
  change W_power _ _ [some (.int b), some (.int e), some (.int p), none, none] m
  unfold W_power
  refine dSeq_k fun k1 h1 => ?_
  walk_at "dl"
  refine ⟨by omega, ?_⟩
  subst h1
  refine dSeq_k fun k1 h1 => ?_
  walk_at "dl"
  refine ⟨by omega, ?_⟩
  subst h1
  refine dSeq_k fun k1 h1 => ?_
  refine ⟨fun c ρ m' => ∃ (r s : Int), ρ = [some (.int b), some (.int c), some (.int p), some (.int r), some (.int s)] ∧ m' = m ∧ 0 ≤ r ∧ r < p ∧ 0 ≤ s ∧ s < p ∧ Cg p (r * s ^ c) (b ^ e), ⟨e, _, _, rfl, rfl, (mod_in hp).1, (mod_in hp).2, (mod_in hp).1, (mod_in hp).2, ?_⟩, ?_⟩
  · refine (Cg.mul .mod (Cg.pow .mod e)).trans (.of_eq (Int.one_mul _))
  · rintro c ρ m' ⟨r, s, rfl, rfl, r0, r1, s0, s1, hc⟩
    walk_at "dl"
    by_cases c0 : c = 0
    · subst c0
      rw [decide_eq_false (by decide), if_neg (by decide)]
      subst h1
      walk_at "dl"
      rw [Int.pow_zero, Int.mul_one] at hc
      have : r = b ^ e % p := Cg.eq (hc.trans Cg.mod.symm) ⟨r0, r1⟩ (mod_in hp)
      rw [this]
      exact q
    · rw [decide_eq_true (by omega), if_pos rfl]
      refine ⟨by decide, rfl, rfl, ?_⟩
      rw [eqD_int]
      have hlt : c / 2 < c := by omega
      have hcd : ((c : Nat) : Int) / 2 = ((c / 2 : Nat) : Int) := by omega
      rw [hcd]
      have sq : Cg p ((s * s % p) ^ (c / 2)) (s ^ (2 * (c / 2))) := by
        refine (Cg.pow .mod _).trans (.of_eq ?_)
        rw [Int.pow_mul]
        congr 1
        rw [Int.pow_succ, Int.pow_succ, Int.pow_zero, Int.one_mul]
      by_cases hb : (c : Int) % 2 = 1
      · rw [if_pos (decide_eq_true hb)]
        refine ⟨mulR s0 (by omega), by omega, mulR s0 (by omega), by omega, ⟨by decide, by decide⟩, c / 2, hlt, _, _, rfl, (mod_in hp).1, (mod_in hp).2, (mod_in hp).1, (mod_in hp).2, ?_⟩
        refine (Cg.mul .mod sq).trans (Cg.trans (.of_eq ?_) hc)
        have : c = 2 * (c / 2) + 1 := by omega
        rw [show s ^ c = s ^ (2 * (c / 2) + 1) by rw [← this], Int.pow_succ, Int.mul_assoc, Int.mul_comm s]
      · rw [if_neg (by simpa using hb)]
        refine ⟨mulR s0 (by omega), by omega, ⟨by decide, by decide⟩, c / 2, hlt, _, _, rfl, r0, r1, (mod_in hp).1, (mod_in hp).2, ?_⟩
        refine (Cg.mul .refl sq).trans (Cg.trans (.of_eq ?_) hc)
        have : c = 2 * (c / 2) := by omega
        rw [show s ^ c = s ^ (2 * (c / 2)) by rw [← this]]
/-- the inverse, or the error -/
def C_inverse : DC := fun ds m Φ Ψ => ∃ (a p : Int), ds = [.int a, .int p] ∧ PM p ∧ (a % p = 0 → Ψ "FieldError" [("number", .int a)] m) ∧ (a % p ≠ 0 → Φ (.int (a ^ (p - 2).toNat % p)) m)
def W_inverse : DS := dSeq (dIf (dB (dOp oEq (dOp oMod (dVar 0) (dVar 1)) (dC (.int 0)))) (dRaise "FieldError" ["number"] (dCons (dVar 0) (dNil))) (dNext)) (dRet (dCall 3 C_power (dCons (dVar 0) (dCons (dOp oSub (dVar 1) (dC (.int 2))) (dCons (dVar 1) (dNil))))))
theorem rd_inverse : ∀ ds m Φ Ψ, ds.length = 2 → C_inverse ds m Φ Ψ → W_inverse { nx := fun _ m' => Φ .non m', rt := Φ } (fun _ => Ψ) (ds.map some ++ List.replicate (2 - ds.length) none) m := by
  intro ds m Φ Ψ _ h
  obtain ⟨a, p, rfl, hp, q1, q2⟩ := h
  have hp1 := hp.1
  change W_inverse _ _ [some (.int a), some (.int p)] m
  unfold W_inverse
  refine dSeq_k fun k1 h1 => ?_
  walk_at "dl"
  refine ⟨by omega, rfl, rfl, ?_⟩
  rw [eqD_int]
  by_cases ha : a % p = 0
  · rw [if_pos (by simpa using ha)]
    walk_at "dl"
    exact q1 ha
  · rw [if_neg (by simpa using ha)]
    subst h1
    walk_at "dl"
    exact ⟨a, p, (p - 2).toNat, by rw [Int.toNat_of_nonneg (by omega)], hp, q2 ha⟩
def C_is_number : DC := fun ds m Φ _ => ∃ (a p : Int), ds = [.int a, .int p] ∧ Φ (.bl (decide (0 ≤ a ∧ a < p))) m
def W_is_number : DS := dRet (dChain oLe oLt (dC (.int 0)) (dVar 0) (dVar 1))
theorem rd_is_number : ∀ ds m Φ Ψ, ds.length = 2 → C_is_number ds m Φ Ψ → W_is_number { nx := fun _ m' => Φ .non m', rt := Φ } (fun _ => Ψ) (ds.map some ++ List.replicate (2 - ds.length) none) m := by
  intro ds m Φ Ψ _ h
  obtain ⟨a, p, rfl, q⟩ := h
  change W_is_number _ _ [some (.int a), some (.int p)] m
  unfold W_is_number
  walk_at "dl"
  by_cases h0 : 0 ≤ a
  · rw [if_pos (decide_eq_true h0)]
    have e : decide (a < p) = decide (0 ≤ a ∧ a < p) := decide_eq_decide.mpr ⟨fun h => ⟨h0, h⟩, fun h => h.2⟩
    rw [e]; exact q
  · rw [if_neg (by simpa using h0)]
    rw [decide_eq_false (fun z : 0 ≤ a ∧ a < p => h0 z.1)] at q
    exact q
/-- a prime by trial division -/
def Pr (n : Int) : Prop := 2 ≤ n ∧ ∀ d : Int, 2 ≤ d → d * d ≤ n → n % d ≠ 0
end Dl

namespace Dl
open PySem L2
local macro_rules | `(tactic| walk_at "dl") => `(tactic| try simp only [dSeq, dSet, dRaise_one, dRaise_two, dTryAs, dXf, dIsE, List.lookup_cons, List.lookup_nil, beq_self_eq_true, Bool.false_eq_true, if_false, dOp, dUn, dVar, dC, dCB, dCons, dNil, dRet, dRetN, dIf, dB, dAnd, dOr, dNot, dDrop, dNext, dMethL, dSetIx, dAndV, dOrV, dNotV, dBlV, dIfE, dLst, dTup, dLstM, dCall, dChain, dAsg, dgName, dgTup, bindD, asT, dFor, diList, diRng1, diRng2, diEnumerate, diZip, diReversed, dLc, dLcM, dYes, wipeD, dAug, dSl, dSlT, dpN, dpS,
  oI, oI0, oB0, oAdd, oNeg, oEq, oNe, oIx, oIsN, oNotN, isNon, oShl, oApp, oPop, oPopAt, cLen, cInt, cAbs, cSum, cMax2, cMin2, cList, cIsi, tyD, asL, asF, asK, moL_lst, ModC, DivC,
  List.getElem?_cons_zero, List.getElem?_cons_succ, List.set_cons_zero, List.set_cons_succ, List.getElem?_nil, List.length_cons, List.length_nil, List.length_map, Option.map_some, Option.bind_some, Option.isSome_some, if_true, true_and, and_true, MM.push])
local macro_rules | `(tactic| walk_at "dx") => `(tactic| try simp only [eq_self_iff_true, okE_int, okE_bl, okE_non, eqD_int, eqD_bl, kq_NoneType_int, kq_NoneType_bool, kq_NoneType_list, kq_NoneType_tuple, kq_NoneType_str, kq_bool_int, kq_bool_bool, kq_bool_list, kq_bool_tuple, kq_bool_str, kq_int_int, kq_int_bool, kq_int_list, kq_int_tuple, kq_int_str, kq_str_int, kq_str_bool, kq_str_list, kq_str_tuple, kq_str_str, kq_list_int, kq_list_bool, kq_list_list, kq_list_tuple, kq_list_str, kq_tuple_int, kq_tuple_bool, kq_tuple_list, kq_tuple_tuple, kq_tuple_str, oInL, oIsB, oNotB, oEqH, oNeH, oShr, oExt, cMaxL, cMinL, cAny, cAll, cTuple, cListM, dRevL, dFld, dSetF, dAugF, dMeth, dMake, moI_ins, app_len, set_app, List.contains_cons, List.contains_nil, Bool.true_or,  Bool.true_eq_false, decide_true, not_true_eq_false, not_false_eq_true, Bool.not_true, Bool.not_false, decide_eq_true_eq, Bool.not_eq_true', decide_eq_false_iff_not, dSeq, dSet, dRaise_one, dRaise_two, dTryAs, dXf, dIsE, List.lookup_cons, List.lookup_nil, beq_self_eq_true, Bool.false_eq_true, if_false, dOp, dUn, dVar, dC, dCB, dCons, dNil, dRet, dRetN, dIf, dB, dAnd, dOr, dNot, dDrop, dNext, dMethL, dSetIx, dAndV, dOrV, dNotV, dBlV, dIfE, dLst, dTup, dLstM, dCall, dChain, dAsg, dgName, dgTup, bindD, asT, dFor, diList, diRng1, diRng2, diEnumerate, diZip, diReversed, dLc, dLcM, dYes, wipeD, dAug, dSl, dSlT, dpN, dpS,
  oI, oI0, oB0, oAdd, oNeg, oEq, oNe, oIx, oIsN, oNotN, isNon, oShl, oApp, oPop, oPopAt, cLen, cInt, cAbs, cSum, cMax2, cMin2, cList, cIsi, tyD, asL, asF, asK, moL_lst, ModC, DivC,
  List.getElem?_cons_zero, List.getElem?_cons_succ, List.set_cons_zero, List.set_cons_succ, List.getElem?_nil, List.length_cons, List.length_nil, List.length_map, Option.map_some, Option.bind_some, Option.isSome_some, if_true, true_and, and_true, MM.push])
local macro_rules | `(tactic| walk_at "lim") => `(tactic| repeat (first | (refine ⟨by decide, ?_⟩) | (refine ⟨by (try simp only [List.length_map, List.length_dropLast, List.length_append, List.length_cons, List.length_nil, List.length_replicate, List.length_take, List.length_drop, List.length_range]); (show _ ≤ 16777216); omega, ?_⟩)))

set_option hygiene false in
local macro_rules | `(tactic| walk_at "stp") => `(tactic| (refine dSeq_k fun k1 h1 => ?_; walk_at "dx"))
set_option hygiene false in
local macro_rules | `(tactic| walk_at "nxt") => `(tactic| (subst h1; (try dsimp only); refine dSeq_k fun k1 h1 => ?_; walk_at "dx"))
set_option hygiene false in
local macro_rules | `(tactic| walk_at "lst") => `(tactic| (subst h1; (try dsimp only); walk_at "dx"))
set_option hygiene false in
local macro_rules | `(tactic| walk_at "nxt2") => `(tactic| (subst h2; (try dsimp only); refine dSeq_k fun k2 h2 => ?_; walk_at "dx"))
set_option hygiene false in
local macro_rules | `(tactic| walk_at "stp2") => `(tactic| (refine dSeq_k fun k2 h2 => ?_; walk_at "dx"))
set_option hygiene false in
local macro_rules | `(tactic| walk_at "lst2") => `(tactic| (subst h2; (try dsimp only); walk_at "dx"))

/-! ### circuits -/
theorem okE_str {n : Nat} {x : Str} (h : PyData.strOk x = true) : okE n (.str x) = true := h
def Good (n : Int) : Prop := 2 ≤ n ∧ n ≤ 2147483647 ∧ Pr n
noncomputable def good (n : Int) : Bool := @decide (Good n) (Classical.propDecidable _)
inductive Gate where
  | lin (a x b y : Int)
  | mul (c x y : Int)
def gD : Gate → D
  | .lin a x b y => .tup [.str (PySem.Str.ofString "lin"), .int a, .int x, .int b, .int y]
  | .mul c x y => .tup [.str (PySem.Str.ofString "mul"), .int c, .int x, .int y]
def gOK (p cols : Int) : Gate → Prop
  | .lin a x b y => (0 ≤ a ∧ a < p) ∧ (0 ≤ x ∧ x < cols) ∧ (0 ≤ b ∧ b < p) ∧ (0 ≤ y ∧ y < cols)
  | .mul c x y => (0 ≤ c ∧ c < p) ∧ (0 ≤ x ∧ x < cols) ∧ (0 ≤ y ∧ y < cols)
structure Cir where
  p : Int
  ws : List Int
  ls : List (List Gate)
def lD (l : List Gate) : D := .lst (l.map gD)
def cD (c : Cir) : D := .tup [.str (PySem.Str.ofString "circuit"), .int c.p, .lst (c.ws.map D.int), .lst (c.ls.map lD)]
structure CirOK (c : Cir) (most wide : Nat) : Prop where
  pm : PM c.p
  pr : Prim c.p
  l0 : 1 ≤ c.ls.length
  l1 : c.ls.length ≤ most
  wl : c.ws.length = c.ls.length + 1
  w0 : ∀ w ∈ c.ws, 0 ≤ w ∧ w ≤ wide
  ll : ∀ i < c.ls.length, ((c.ls.getD i []).length : Int) = 2 ^ (gi c.ws (i : Nat)).toNat
  gg : ∀ i < c.ls.length, ∀ g ∈ c.ls.getD i [], gOK c.p (2 ^ (gi c.ws ((i + 1 : Nat) : Int)).toNat) g
theorem plD_ints (xs : List Int) : plD (.lst (xs.map D.int)) = true := plDs_of fun d hd => by
  obtain ⟨g, _, rfl⟩ := List.mem_map.mp hd
  rfl
theorem pow_le8 {w : Int} {wide : Nat} (h : 0 ≤ w ∧ w ≤ wide) (hw : wide ≤ 3) : (2 : Int) ^ w.toNat ≤ 8 ∧ 1 ≤ (2 : Int) ^ w.toNat := by
  have : w = 0 ∨ w = 1 ∨ w = 2 ∨ w = 3 := by omega
  rcases this with rfl | rfl | rfl | rfl <;> exact ⟨by decide, by decide⟩
theorem gi_mem {xs : List Int} {i : Nat} (h : i < xs.length) : gi xs (i : Nat) ∈ xs := by
  rw [gi_nat, List.getD_eq_getElem?_getD, List.getElem?_eq_getElem h]
  exact List.getElem_mem h
theorem all2_len {α : Type} {P : α → Prop} {n : Nat} {ys : List α} (h : All2 (fun _ y => P y) (List.range n) ys) : ys.length = n := by
  rw [← h.length, List.length_range]
theorem all2_mem {α β : Type} {P : α → Prop} : ∀ {xs : List β} {ys : List α}, All2 (fun _ y => P y) xs ys → ∀ y ∈ ys, P y
  | _, _, .nil, y, hy => by cases hy
  | _, _, .cons a h, y, hy => by
    rcases List.mem_cons.mp hy with e | e
    · rw [e]; exact a
    · exact all2_mem h y e
end Dl

namespace Dl
open PySem L2
local macro_rules | `(tactic| walk_at "dl") => `(tactic| try simp only [dSeq, dSet, dRaise_one, dRaise_two, dTryAs, dXf, dIsE, List.lookup_cons, List.lookup_nil, beq_self_eq_true, Bool.false_eq_true, if_false, dOp, dUn, dVar, dC, dCB, dCons, dNil, dRet, dRetN, dIf, dB, dAnd, dOr, dNot, dDrop, dNext, dMethL, dSetIx, dAndV, dOrV, dNotV, dBlV, dIfE, dLst, dTup, dLstM, dCall, dChain, dAsg, dgName, dgTup, bindD, asT, dFor, diList, diRng1, diRng2, diEnumerate, diZip, diReversed, dLc, dLcM, dYes, wipeD, dAug, dSl, dSlT, dpN, dpS,
  oI, oI0, oB0, oAdd, oNeg, oEq, oNe, oIx, oIsN, oNotN, isNon, oShl, oApp, oPop, oPopAt, cLen, cInt, cAbs, cSum, cMax2, cMin2, cList, cIsi, tyD, asL, asF, asK, moL_lst, ModC, DivC,
  List.getElem?_cons_zero, List.getElem?_cons_succ, List.set_cons_zero, List.set_cons_succ, List.getElem?_nil, List.length_cons, List.length_nil, List.length_map, Option.map_some, Option.bind_some, Option.isSome_some, if_true, true_and, and_true, MM.push])
local macro_rules | `(tactic| walk_at "dx") => `(tactic| try simp only [eq_self_iff_true, okE_int, okE_bl, okE_non, eqD_int, eqD_bl, kq_NoneType_int, kq_NoneType_bool, kq_NoneType_list, kq_NoneType_tuple, kq_NoneType_str, kq_bool_int, kq_bool_bool, kq_bool_list, kq_bool_tuple, kq_bool_str, kq_int_int, kq_int_bool, kq_int_list, kq_int_tuple, kq_int_str, kq_str_int, kq_str_bool, kq_str_list, kq_str_tuple, kq_str_str, kq_list_int, kq_list_bool, kq_list_list, kq_list_tuple, kq_list_str, kq_tuple_int, kq_tuple_bool, kq_tuple_list, kq_tuple_tuple, kq_tuple_str, oInL, oIsB, oNotB, oEqH, oNeH, oShr, oExt, cMaxL, cMinL, cAny, cAll, cTuple, cListM, dRevL, dFld, dSetF, dAugF, dMeth, dMake, moI_ins, app_len, set_app, List.contains_cons, List.contains_nil, Bool.true_or,  Bool.true_eq_false, decide_true, not_true_eq_false, not_false_eq_true, Bool.not_true, Bool.not_false, decide_eq_true_eq, Bool.not_eq_true', decide_eq_false_iff_not, dSeq, dSet, dRaise_one, dRaise_two, dTryAs, dXf, dIsE, List.lookup_cons, List.lookup_nil, beq_self_eq_true, Bool.false_eq_true, if_false, dOp, dUn, dVar, dC, dCB, dCons, dNil, dRet, dRetN, dIf, dB, dAnd, dOr, dNot, dDrop, dNext, dMethL, dSetIx, dAndV, dOrV, dNotV, dBlV, dIfE, dLst, dTup, dLstM, dCall, dChain, dAsg, dgName, dgTup, bindD, asT, dFor, diList, diRng1, diRng2, diEnumerate, diZip, diReversed, dLc, dLcM, dYes, wipeD, dAug, dSl, dSlT, dpN, dpS,
  oI, oI0, oB0, oAdd, oNeg, oEq, oNe, oIx, oIsN, oNotN, isNon, oShl, oApp, oPop, oPopAt, cLen, cInt, cAbs, cSum, cMax2, cMin2, cList, cIsi, tyD, asL, asF, asK, moL_lst, ModC, DivC,
  List.getElem?_cons_zero, List.getElem?_cons_succ, List.set_cons_zero, List.set_cons_succ, List.getElem?_nil, List.length_cons, List.length_nil, List.length_map, Option.map_some, Option.bind_some, Option.isSome_some, if_true, true_and, and_true, MM.push])
local macro_rules | `(tactic| walk_at "lim") => `(tactic| repeat (first | (refine ⟨by decide, ?_⟩) | (refine ⟨by (try simp only [List.length_map, List.length_dropLast, List.length_append, List.length_cons, List.length_nil, List.length_replicate, List.length_take, List.length_drop, List.length_range]); (show _ ≤ 16777216); omega, ?_⟩)))

set_option hygiene false in
local macro_rules | `(tactic| walk_at "stp") => `(tactic| (refine dSeq_k fun k1 h1 => ?_; walk_at "dx"))
set_option hygiene false in
local macro_rules | `(tactic| walk_at "nxt") => `(tactic| (subst h1; (try dsimp only); refine dSeq_k fun k1 h1 => ?_; walk_at "dx"))
set_option hygiene false in
local macro_rules | `(tactic| walk_at "lst") => `(tactic| (subst h1; (try dsimp only); walk_at "dx"))
set_option hygiene false in
local macro_rules | `(tactic| walk_at "nxt2") => `(tactic| (subst h2; (try dsimp only); refine dSeq_k fun k2 h2 => ?_; walk_at "dx"))
set_option hygiene false in
local macro_rules | `(tactic| walk_at "stp2") => `(tactic| (refine dSeq_k fun k2 h2 => ?_; walk_at "dx"))
set_option hygiene false in
local macro_rules | `(tactic| walk_at "lst2") => `(tactic| (subst h2; (try dsimp only); walk_at "dx"))

/-! ### a comprehension whose items look at what changes -/
theorem lcW_fnM {α β : Type} {inj : α → D} {out : β → D} {g : DG} {te : DE} {ρ : Dl.Env} {Φ : D → MM → Prop} (f : α → β) (m : MM) (xs : List α)
    (hg : ∀ x ∈ xs, ∀ (acc : List D) (Θ : D → MM → Prop), Θ (out (f x)) (m.push (.lst acc)) → g (inj x) ρ (m.push (.lst acc)) (fun ρ1 m1 => m1 = m.push (.lst acc) ∧ te ρ1 (m.push (.lst acc)) Θ XF)) (hc : ∀ y, clD m.M.length (out y) = true) (hl : xs.length ≤ LIM) (h : Φ (.lst ((xs.map f).map out)) m) :
    lcW g dYes te ρ Φ (xs.map inj) [] m := by
  have key : ∀ (ys : List α), (∀ x ∈ ys, x ∈ xs) → ∀ (acc : List D), acc.length + ys.length ≤ LIM → Φ (.lst (acc ++ (ys.map f).map out)) m → lcW g dYes te ρ Φ (ys.map inj) acc m := by
    intro ys
    induction ys with
    | nil => intro _ acc _ h; rw [List.map_nil, List.map_nil, List.append_nil] at h; exact h
    | cons x ys ih =>
      intro hx acc hl h
      rw [List.length_cons] at hl
      have z := hg x (hx x List.mem_cons_self) acc (fun y m3 => m3 = m.push (.lst acc) ∧ acc.length < LIM ∧ clD m.M.length y = true ∧ lcW g dYes te ρ Φ (ys.map inj) (acc ++ [y]) m) ⟨rfl, by omega, hc _, ih (fun y hy => hx y (List.mem_cons_of_mem _ hy)) (acc ++ [out (f x)]) (by rw [List.length_append, List.length_singleton]; omega) (by
        rw [List.map_cons, List.map_cons] at h
        rw [List.append_assoc]
        exact h)⟩
      have key : (fun (ρ1 : Dl.Env) (m1 : MM) => m1 = m.push (.lst acc) ∧ te ρ1 (m.push (.lst acc)) (fun y m3 => m3 = m.push (.lst acc) ∧ acc.length < LIM ∧ clD m.M.length y = true ∧ lcW g dYes te ρ Φ (ys.map inj) (acc ++ [y]) m) XF)
          = (fun ρ1 m1 => m1 = m.push (.lst acc) ∧ dYes ρ1 (m.push (.lst acc)) (fun b m2 => m2 = m.push (.lst acc) ∧ if b = true then te ρ1 (m.push (.lst acc)) (fun y m3 => m3 = m.push (.lst acc) ∧ acc.length < LIM ∧ clD m.M.length y = true ∧ lcW g dYes te ρ Φ (ys.map inj) (acc ++ [y]) m) XF
            else lcW g dYes te ρ Φ (ys.map inj) acc m) XF) := by
        funext ρ1 m1
        unfold dYes
        simp
      rw [key] at z
      exact z
  exact key xs (fun x h => h) [] (by rw [List.length_nil]; omega) (by rw [List.nil_append]; exact h)
/-! ### rows, runs -/
theorem set_app2 {M L : List MO} {x z : MO} : (M ++ x :: L).set M.length z = M ++ z :: L := by rw [List.set_append_right _ _ (Nat.le_refl _)]; simp
theorem shl1 (b : Nat) : (1 : Int) * 2 ^ ((b : Nat) : Int).toNat = ((2 ^ b : Nat) : Int) := by
  rw [Int.one_mul, Int.toNat_natCast]
  simp
theorem cpow_ok {b : Nat} (h : b ≤ 1000) : CPow 1 (b : Nat) := ⟨by omega, by omega, by decide⟩
def colsC (c : Cir) (i : Nat) : Int := 2 ^ (gi c.ws (i : Nat)).toNat
/-! the values of a circuit -/
def gv (p : Int) (below : List Int) : Gate → Int
  | .lin a x b y => (a * gi below x + b * gi below y) % p
  | .mul c x y => c * gi below x * gi below y % p
/-- all columns of all layers, the last layer being the inputs -/
def rr (p : Int) : List (List Gate) → List Int → List (List Int)
  | [], inp => [inp]
  | l :: ls, inp => (l.map (gv p ((rr p ls inp).headD []))) :: rr p ls inp
def intL (xs : List Int) : D := .lst (xs.map D.int)
def tabI (found : List (List (List Int))) (i cols : Nat) : List Int := (List.range cols).flatMap fun g => found.map fun f => gi (f.getD i []) (g : Nat)
def colsN (c : Cir) (i : Nat) : Nat := 2 ^ (gi c.ws (i : Nat)).toNat
theorem colsN_eq {c : Cir} {i : Nat} : (colsN c i : Int) = colsC c i := by unfold colsN colsC; simp
def tables (c : Cir) (R : List (List Int)) : List (List Int) := (List.range (c.ls.length + 1)).map fun i => tabI (R.map (rr c.p c.ls)) i (colsN c i)
def tabL (t : List (List Int)) : D := .lst (t.map intL)
end Dl

namespace Dl
open PySem L2
local macro_rules | `(tactic| walk_at "dl") => `(tactic| try simp only [dSeq, dSet, dRaise_one, dRaise_two, dTryAs, dXf, dIsE, List.lookup_cons, List.lookup_nil, beq_self_eq_true, Bool.false_eq_true, if_false, dOp, dUn, dVar, dC, dCB, dCons, dNil, dRet, dRetN, dIf, dB, dAnd, dOr, dNot, dDrop, dNext, dMethL, dSetIx, dAndV, dOrV, dNotV, dBlV, dIfE, dLst, dTup, dLstM, dCall, dChain, dAsg, dgName, dgTup, bindD, asT, dFor, diList, diRng1, diRng2, diEnumerate, diZip, diReversed, dLc, dLcM, dYes, wipeD, dAug, dSl, dSlT, dpN, dpS,
  oI, oI0, oB0, oAdd, oNeg, oEq, oNe, oIx, oIsN, oNotN, isNon, oShl, oApp, oPop, oPopAt, cLen, cInt, cAbs, cSum, cMax2, cMin2, cList, cIsi, tyD, asL, asF, asK, moL_lst, ModC, DivC,
  List.getElem?_cons_zero, List.getElem?_cons_succ, List.set_cons_zero, List.set_cons_succ, List.getElem?_nil, List.length_cons, List.length_nil, List.length_map, Option.map_some, Option.bind_some, Option.isSome_some, if_true, true_and, and_true, MM.push])
local macro_rules | `(tactic| walk_at "dx") => `(tactic| try simp only [eq_self_iff_true, okE_int, okE_bl, okE_non, eqD_int, eqD_bl, kq_NoneType_int, kq_NoneType_bool, kq_NoneType_list, kq_NoneType_tuple, kq_NoneType_str, kq_bool_int, kq_bool_bool, kq_bool_list, kq_bool_tuple, kq_bool_str, kq_int_int, kq_int_bool, kq_int_list, kq_int_tuple, kq_int_str, kq_str_int, kq_str_bool, kq_str_list, kq_str_tuple, kq_str_str, kq_list_int, kq_list_bool, kq_list_list, kq_list_tuple, kq_list_str, kq_tuple_int, kq_tuple_bool, kq_tuple_list, kq_tuple_tuple, kq_tuple_str, oInL, oIsB, oNotB, oEqH, oNeH, oShr, oExt, cMaxL, cMinL, cAny, cAll, cTuple, cListM, dRevL, dFld, dSetF, dAugF, dMeth, dMake, moI_ins, app_len, set_app, List.contains_cons, List.contains_nil, Bool.true_or,  Bool.true_eq_false, decide_true, not_true_eq_false, not_false_eq_true, Bool.not_true, Bool.not_false, decide_eq_true_eq, Bool.not_eq_true', decide_eq_false_iff_not, dSeq, dSet, dRaise_one, dRaise_two, dTryAs, dXf, dIsE, List.lookup_cons, List.lookup_nil, beq_self_eq_true, Bool.false_eq_true, if_false, dOp, dUn, dVar, dC, dCB, dCons, dNil, dRet, dRetN, dIf, dB, dAnd, dOr, dNot, dDrop, dNext, dMethL, dSetIx, dAndV, dOrV, dNotV, dBlV, dIfE, dLst, dTup, dLstM, dCall, dChain, dAsg, dgName, dgTup, bindD, asT, dFor, diList, diRng1, diRng2, diEnumerate, diZip, diReversed, dLc, dLcM, dYes, wipeD, dAug, dSl, dSlT, dpN, dpS,
  oI, oI0, oB0, oAdd, oNeg, oEq, oNe, oIx, oIsN, oNotN, isNon, oShl, oApp, oPop, oPopAt, cLen, cInt, cAbs, cSum, cMax2, cMin2, cList, cIsi, tyD, asL, asF, asK, moL_lst, ModC, DivC,
  List.getElem?_cons_zero, List.getElem?_cons_succ, List.set_cons_zero, List.set_cons_succ, List.getElem?_nil, List.length_cons, List.length_nil, List.length_map, Option.map_some, Option.bind_some, Option.isSome_some, if_true, true_and, and_true, MM.push])
local macro_rules | `(tactic| walk_at "lim") => `(tactic| repeat (first | (refine ⟨by decide, ?_⟩) | (refine ⟨by (try simp only [List.length_map, List.length_dropLast, List.length_append, List.length_cons, List.length_nil, List.length_replicate, List.length_take, List.length_drop, List.length_range]); (show _ ≤ 16777216); omega, ?_⟩)))

set_option hygiene false in
local macro_rules | `(tactic| walk_at "stp") => `(tactic| (refine dSeq_k fun k1 h1 => ?_; walk_at "dx"))
set_option hygiene false in
local macro_rules | `(tactic| walk_at "nxt") => `(tactic| (subst h1; (try dsimp only); refine dSeq_k fun k1 h1 => ?_; walk_at "dx"))
set_option hygiene false in
local macro_rules | `(tactic| walk_at "lst") => `(tactic| (subst h1; (try dsimp only); walk_at "dx"))
set_option hygiene false in
local macro_rules | `(tactic| walk_at "nxt2") => `(tactic| (subst h2; (try dsimp only); refine dSeq_k fun k2 h2 => ?_; walk_at "dx"))
set_option hygiene false in
local macro_rules | `(tactic| walk_at "stp2") => `(tactic| (refine dSeq_k fun k2 h2 => ?_; walk_at "dx"))
set_option hygiene false in
local macro_rules | `(tactic| walk_at "lst2") => `(tactic| (subst h2; (try dsimp only); walk_at "dx"))


def InP (p : Int) (xs : List Int) : Prop := ∀ x ∈ xs, 0 ≤ x ∧ x < p
theorem InP.gi {p : Int} {xs : List Int} (h : InP p xs) {z : Int} (h0 : 0 ≤ z) (hz : z < xs.length) : 0 ≤ gi xs z ∧ gi xs z < p := by
  have hl : z.toNat < xs.length := by omega
  unfold Dl.gi
  rw [List.getD_eq_getElem?_getD, List.getElem?_eq_getElem hl]
  exact h _ (List.getElem_mem hl)

/-- the values at 0, …, n - 1 -/
def vals (cs : List Int) (n : Nat) (p : Int) : List Int := (List.range n).map fun k : Nat => pev cs (k : Nat) % p

theorem InP.gN {p : Int} {xs : List Int} (h : InP p xs) {i : Nat} (hz : i < xs.length) : 0 ≤ Dl.gi xs (i : Nat) ∧ Dl.gi xs (i : Nat) < p := h.gi (by omega) (by omega)

theorem vals_len {cs : List Int} {n : Nat} {p : Int} : (vals cs n p).length = n := by
  unfold vals
  rw [List.length_map, List.length_range]
theorem vals_at {cs : List Int} {n k : Nat} {p : Int} (h : k < n) : gi (vals cs n p) (k : Nat) = pev cs (k : Nat) % p := by
  unfold vals
  rw [gi_range h]
/-! ### the value of a polynomial that is told by any values -/
def abM (k : Nat) (t p : Int) : Nat → Int
  | 0 => 1
  | j + 1 => if j = k then abM k t p j else abM k t p j * (t - (j : Nat)) % p
theorem abM_cg {k : Nat} {t p : Int} : ∀ j, Cg p (abM k t p j) (above k t j)
  | 0 => .refl
  | j + 1 => by
    unfold abM above
    split
    · exact abM_cg j
    · exact Cg.mod.trans ((abM_cg j).mul .refl)
theorem abM_in {k : Nat} {t p : Int} (hp : 2 ≤ p) : ∀ j, 0 ≤ abM k t p j ∧ abM k t p j < p
  | 0 => ⟨by show (0 : Int) ≤ 1; decide, by show (1 : Int) < p; omega⟩
  | j + 1 => by
    unfold abM
    split
    · exact abM_in hp j
    · exact mod_in hp
def wtM (n : Nat) (t p : Int) (k : Nat) : Int := abM k t p n * ((abM k (k : Nat) p n) ^ (p - 2).toNat % p) % p
def wtsV (n : Nat) (t p : Int) : List Int := (List.range n).map (wtM n t p)
theorem wtsV_len {n : Nat} {t p : Int} : (wtsV n t p).length = n := by unfold wtsV; rw [List.length_map, List.length_range]
def valV (vs : List Int) (t p : Int) : Int := if t < vs.length then gi vs t else (S vs.length fun k => gi vs (k : Nat) * wtM vs.length t p k) % p
def cornV (vs : List Int) (p : Int) : Int := if vs.length = 1 then 2 * gi vs 0 % p else (gi vs 0 + gi vs 1) % p
theorem wtM_inv {p : Int} (P : Prim p) {n k : Nat} (hn : (n : Int) ≤ p) (hk : k < n) : Cg p (above k (k : Nat) n * (abM k (k : Nat) p n) ^ (p - 2).toNat) 1 := by
  have nb : ¬ Cg p (abM k (k : Nat) p n) 0 := fun z => above_ne P n hn (by omega) (abM_cg n |>.symm.trans z)
  rw [Int.mul_comm]
  exact (Cg.mul .refl (abM_cg n).symm).trans (fermat_inv P nb)
theorem valV_pev {p : Int} (P : Prim p) {cs : List Int} {n : Nat} {t : Int} (hcs : cs.length ≤ n) (hn0 : 0 < n) (hnp : (n : Int) ≤ p) (t0 : 0 ≤ t) : valV (vals cs n p) t p = pev cs t % p := by
  unfold valV
  rw [vals_len]
  split
  · rename_i h
    obtain ⟨t, rfl⟩ := Int.eq_ofNat_of_zero_le t0
    exact vals_at (by omega)
  · obtain ⟨j, rfl⟩ : ∃ j, n = j + 1 := ⟨n - 1, by omega⟩
    have lg := lagrange P (n := j) hnp (Pol.pev (p := p) cs hcs) (fun k => (abM k (k : Nat) p (j + 1)) ^ (p - 2).toNat) (fun k hk => wtM_inv P hnp (by omega)) t
    refine Cg.trans (S_cg (p := p) (j + 1) fun k hk => ?_) lg
    refine Cg.mul ?_ ?_
    · rw [vals_at hk]; exact .mod
    · exact Cg.mod.trans ((abM_cg _).mul .mod)
def C_weights : DC := fun ds m Φ _ => ∃ (n : Nat) (t p : Int), ds = [.int n, .int t, .int p] ∧ PM p ∧ Prim p ∧ (n : Int) ≤ p ∧ n ≤ 1000 ∧ Φ (.lst ((wtsV n t p).map D.int)) m
def W_weights : DS := dSeq (dSet 3 (dLstM (dNil))) (dSeq (dFor (diRng1 (dCons (dVar 0) (dNil))) (dgName 4) (dSeq (dSet 5 (dC (.int 1))) (dSeq (dSet 6 (dC (.int 1))) (dSeq (dFor (diRng1 (dCons (dVar 0) (dNil))) (dgName 7) (dIf (dB (dOp oNe (dVar 7) (dVar 4))) (dSeq (dSet 5 (dOp oMod (dOp oMul (dVar 5) (dOp oSub (dVar 1) (dVar 7))) (dVar 2))) (dSet 6 (dOp oMod (dOp oMul (dVar 6) (dOp oSub (dVar 4) (dVar 7))) (dVar 2)))) (dNext))) (dDrop (dMethL oApp (dVar 3) (dCons (dOp oMod (dOp oMul (dVar 5) (dCall 2 C_inverse (dCons (dVar 6) (dCons (dVar 2) (dNil))))) (dVar 2)) (dNil)))))))) (dRet (dVar 3)))
theorem rd_weights : ∀ ds m Φ Ψ, ds.length = 3 → C_weights ds m Φ Ψ → W_weights { nx := fun _ m' => retQ m Φ .non m', rt := retQ m Φ } (fun _ => retX m Ψ) (ds.map some ++ List.replicate (8 - ds.length) none) m := by
  intro ds m Φ Ψ _ h
  obtain ⟨n, t, p, rfl, hp, P, hn, hn2, q⟩ := h
  have hp1 := hp.1
  have hp2 := hp.2
  change W_weights _ _ [some (.int n), some (.int t), some (.int p), none, none, none, none, none] m
  unfold W_weights
  refine dSeq_k fun k1 h1 => ?_
  walk_at "dx"
  refine ⟨by decide, ?_⟩
  subst h1
  refine dSeq_k fun k1 h1 => ?_
  walk_at "dx"
  refine ⟨⟨by omega, by omega⟩, ?_⟩
  rw [rngD0, Int.toNat_natCast]
  refine forW_nat (fun k ρ m' => ∃ (v4 v5 v6 v7 : Option D), ρ = [some (.int n), some (.int t), some (.int p), some (.hnd m.M.length), v4, v5, v6, v7] ∧ m' = ⟨m.M ++ [MO.lst (((List.range k).map (wtM n t p)).map D.int)], m.s⟩) ?_ ?_ ⟨_, _, _, _, rfl, rfl⟩
  · rintro k kk hk hkk ρ m' ⟨v4, v5, v6, v7, rfl, rfl⟩
    clear h1
    refine dSeq_k fun k1 h1 => ?_
    walk_at "dx"
    subst h1
    refine dSeq_k fun k1 h1 => ?_
    walk_at "dx"
    subst h1
    refine dSeq_k fun k1 h1 => ?_
    walk_at "dx"
    refine ⟨⟨by omega, by omega⟩, ?_⟩
    rw [rngD0, Int.toNat_natCast]
    refine forW_nat (fun j ρ m2 => ∃ (v7 : Option D), ρ = [some (.int n), some (.int t), some (.int p), some (.hnd m.M.length), some (.int k), some (.int (abM k t p j)), some (.int (abM k (k : Nat) p j)), v7] ∧ m2 = ⟨m.M ++ [MO.lst (((List.range k).map (wtM n t p)).map D.int)], m.s⟩) ?_ ?_ ⟨_, rfl, rfl⟩
    · rintro j kj hj hkj ρ m' ⟨v7, rfl, rfl⟩
      clear h1
      have a0 := abM_in (k := k) (t := t) hp1 j
      have b0 := abM_in (k := k) (t := (k : Nat)) hp1 j
      walk_at "dx"
      by_cases e : j = k
      · rw [if_neg (by simpa using (by omega : (j : Int) = k))]
        exact hkj _ _ ⟨_, by rw [show abM k t p (j + 1) = abM k t p j from if_pos e, show abM k (k : Nat) p (j + 1) = abM k (k : Nat) p j from if_pos e], rfl⟩
      · rw [if_pos (by simpa using (by omega : ¬ (j : Int) = k))]
        refine ⟨mulL a0.1 (by omega), by omega, mulL b0.1 (by omega), by omega, ?_⟩
        exact hkj _ _ ⟨_, by rw [show abM k t p (j + 1) = abM k t p j * (t - (j : Nat)) % p from if_neg e, show abM k (k : Nat) p (j + 1) = abM k (k : Nat) p j * ((k : Nat) - (j : Nat)) % p from if_neg e], rfl⟩
    · rintro ρ m' ⟨v7, rfl, rfl⟩
      subst h1
      have a0 := abM_in (k := k) (t := t) hp1 n
      have nb : ¬ Cg p (abM k (k : Nat) p n) 0 := fun z => above_ne P n hn (by omega) ((abM_cg n).symm.trans z)
      have nb2 : abM k (k : Nat) p n % p ≠ 0 := fun z => nb (by unfold Cg; rw [z]; rfl)
      walk_at "dx"
      refine ⟨_, p, rfl, hp, fun z => absurd z nb2, fun _ => ?_⟩
      walk_at "dx"
      have i0 := mod_in hp1 (z := abM k (k : Nat) p n ^ (p - 2).toNat)
      refine ⟨mulL a0.1 (by omega), by omega, by show _ < 16777216; simp only [List.length_map, List.length_range]; omega, hkk _ _ ⟨_, _, _, _, rfl, ?_⟩⟩
      rw [List.range_succ, List.map_append, List.map_append]
      rfl
  · rintro ρ m' ⟨v4, v5, v6, v7, rfl, rfl⟩
    subst h1
    walk_at "dx"
    exact retQ_lst (clAll_ints _) q
def C_value : DC := fun ds m Φ _ => ∃ (vs : List Int) (t p : Int), ds = [.lst (vs.map D.int), .int t, .int p] ∧ PM p ∧ Prim p ∧ InP p vs ∧ vs.length ≤ 1000 ∧ (vs.length : Int) ≤ p ∧ 0 ≤ t ∧ Φ (.int (valV vs t p)) m
def W_value : DS := dSeq (dIf (dB (dOp oLt (dVar 1) (dCB cLen (dCons (dVar 0) (dNil))))) (dRet (dOp oIx (dVar 0) (dVar 1))) (dNext)) (dSeq (dSet 3 (dC (.int 0))) (dSeq (dFor (diEnumerate (dCons (dCall 3 C_weights (dCons (dCB cLen (dCons (dVar 0) (dNil))) (dCons (dVar 1) (dCons (dVar 2) (dNil))))) (dNil))) (dgTup [4, 5]) (dAug 3 (oI0 fun i j => i + j) (dOp oMul (dOp oIx (dVar 0) (dVar 4)) (dVar 5)))) (dRet (dOp oMod (dVar 3) (dVar 2)))))
theorem rd_value : ∀ ds m Φ Ψ, ds.length = 3 → C_value ds m Φ Ψ → W_value { nx := fun _ m' => Φ .non m', rt := Φ } (fun _ => Ψ) (ds.map some ++ List.replicate (6 - ds.length) none) m := by
  intro ds m Φ Ψ _ h
  obtain ⟨vs, t, p, rfl, hp, P, vi, hn, hnp, t0, q⟩ := h
  have hp1 := hp.1
  have hp2 := hp.2
  change W_value _ _ [some (D.lst (vs.map D.int)), some (.int t), some (.int p), none, none, none] m
  unfold W_value
  unfold valV at q
  refine dSeq_k fun k1 h1 => ?_
  walk_at "dx"
  by_cases ht : t < vs.length
  · rw [if_pos ht] at q
    rw [if_pos ht]
    exact ⟨_, atI_gi t0 ht, q⟩
  · rw [if_neg ht] at q
    rw [if_neg ht]
    subst h1
    refine dSeq_k fun k1 h1 => ?_
    walk_at "dx"
    subst h1
    refine dSeq_k fun k1 h1 => ?_
    walk_at "dx"
    refine ⟨vs.length, t, p, rfl, hp, P, hnp, hn, ?_⟩
    walk_at "dx"
    refine forW_enum (inj := D.int) (fun i r ρ m' => ∃ (v4 v5 : Option D), ρ = [some (D.lst (vs.map D.int)), some (.int t), some (.int p), some (.int (S i fun j => gi vs (j : Nat) * wtM vs.length t p j)), v4, v5] ∧ m' = m ∧ r = (wtsV vs.length t p).drop i ∧ i ≤ vs.length) ?_ ?_ (wtsV vs.length t p) 0 _ _ ⟨_, _, rfl, rfl, rfl, by omega⟩
    · rintro i w r kk hk ρ m' ⟨v4, v5, rfl, rfl, hr, hi⟩
      have hil : i < (wtsV vs.length t p).length := by
        rcases Nat.lt_or_ge i (wtsV vs.length t p).length with z | z
        · exact z
        · rw [List.drop_eq_nil_of_le z] at hr
          cases hr
      rw [List.drop_eq_getElem_cons hil] at hr
      obtain ⟨rfl, hr2⟩ := List.cons.inj hr
      rw [wtsV_len] at hil
      have ew : (wtsV vs.length t p)[i]'(by rw [wtsV_len]; exact hil) = wtM vs.length t p i := by unfold wtsV; rw [List.getElem_map, List.getElem_range]
      have hg := vi.gN (i := i) hil
      walk_at "dx"
      rw [ew]
      refine ⟨_, atI_gi (by omega) (by omega), mulL hg.1 (by omega), ?_⟩
      walk_at "dx"
      exact hk _ _ ⟨_, _, rfl, rfl, hr2, by omega⟩
    · rintro i ρ m' ⟨v4, v5, rfl, rfl, hr, hi⟩
      have e : i = vs.length := by
        have := congrArg List.length hr
        rw [List.length_nil, List.length_drop, wtsV_len] at this
        omega
      rw [e]
      subst h1
      walk_at "dx"
      exact ⟨by omega, q⟩
def C_corners : DC := fun ds m Φ _ => ∃ (vs : List Int) (p : Int), ds = [.lst (vs.map D.int), .int p] ∧ PM p ∧ InP p vs ∧ 0 < vs.length ∧ Φ (.int (cornV vs p)) m
def W_corners : DS := dSeq (dIf (dB (dOp oEq (dCB cLen (dCons (dVar 0) (dNil))) (dC (.int 1)))) (dRet (dOp oMod (dOp oMul (dC (.int 2)) (dOp oIx (dVar 0) (dC (.int 0)))) (dVar 1))) (dNext)) (dRet (dOp oMod (dOp oAdd (dOp oIx (dVar 0) (dC (.int 0))) (dOp oIx (dVar 0) (dC (.int 1)))) (dVar 1)))
theorem rd_corners : ∀ ds m Φ Ψ, ds.length = 2 → C_corners ds m Φ Ψ → W_corners { nx := fun _ m' => Φ .non m', rt := Φ } (fun _ => Ψ) (ds.map some ++ List.replicate (2 - ds.length) none) m := by
  intro ds m Φ Ψ _ h
  obtain ⟨vs, p, rfl, hp, vi, hn0, q⟩ := h
  have hp1 := hp.1
  have hp2 := hp.2
  change W_corners _ _ [some (D.lst (vs.map D.int)), some (.int p)] m
  unfold W_corners
  unfold cornV at q
  refine dSeq_k fun k1 h1 => ?_
  walk_at "dx"
  by_cases e : vs.length = 1
  · rw [if_pos e] at q
    rw [if_pos (by omega)]
    refine ⟨_, atI_gi (by decide) (by omega), ?_⟩
    walk_at "dx"
    exact ⟨mulL (by decide) (by decide), by omega, q⟩
  · rw [if_neg e] at q
    rw [if_neg (by omega)]
    subst h1
    walk_at "dx"
    refine ⟨_, atI_gi (by decide) (by omega), _, atI_gi (by decide) (by omega), ?_⟩
    walk_at "dx"
    exact ⟨by omega, q⟩
/-! ### folding, products, sums over the corners -/
def foldS (p : Int) (t : List Int) (x : Int) : List Int := (List.range (t.length / 2)).map fun k => (gi t (2 * (k : Nat)) + x * (gi t (2 * (k : Nat) + 1) - gi t (2 * (k : Nat)))) % p
def C_fold : DC := fun ds m Φ _ => ∃ (t : List Int) (x p : Int), ds = [.lst (t.map D.int), .int x, .int p] ∧ PM p ∧ InP p t ∧ t.length ≤ 65536 ∧ Φ (.lst ((foldS p t x).map D.int)) m
def W_fold : DS := dSeq (dSet 3 (dOp oDiv (dCB cLen (dCons (dVar 0) (dNil))) (dC (.int 2)))) (dRet (dLc (diRng1 (dCons (dVar 3) (dNil))) (dgName 4) (dYes) (dOp oMod (dOp oAdd (dOp oIx (dVar 0) (dOp oMul (dC (.int 2)) (dVar 4))) (dOp oMul (dVar 1) (dOp oSub (dOp oIx (dVar 0) (dOp oAdd (dOp oMul (dC (.int 2)) (dVar 4)) (dC (.int 1)))) (dOp oIx (dVar 0) (dOp oMul (dC (.int 2)) (dVar 4)))))) (dVar 2)) [4]))
theorem inP_mod {p : Int} (hp : 2 ≤ p) {α : Type} (f : α → Int) (xs : List α) : InP p (xs.map fun x => f x % p) := fun y hy => by
  obtain ⟨x, _, rfl⟩ := List.mem_map.mp hy
  exact ⟨Int.emod_nonneg _ (by omega), Int.emod_lt_of_pos _ (by omega)⟩
theorem foldS_len {p x : Int} {t : List Int} : (foldS p t x).length = t.length / 2 := by
  unfold foldS
  rw [List.length_map, List.length_range]
theorem foldS_in {p x : Int} (hp : 2 ≤ p) {t : List Int} : InP p (foldS p t x) := by
  unfold foldS
  exact inP_mod hp _ _
theorem rd_fold : ∀ ds m Φ Ψ, ds.length = 3 → C_fold ds m Φ Ψ → W_fold { nx := fun _ m' => Φ .non m', rt := Φ } (fun _ => Ψ) (ds.map some ++ List.replicate (5 - ds.length) none) m := by
  intro ds m Φ Ψ _ h
  obtain ⟨t, x, p, rfl, ⟨hp, hp2⟩, ht, hl, q⟩ := h
  change W_fold _ _ [some (D.lst (t.map D.int)), some (.int x), some (.int p), none, none] m
  unfold W_fold
  walk_at "dl"
  have h2 : (((t.length : Nat) : Int) / 2).toNat = t.length / 2 := by omega
  refine ⟨⟨by decide, by decide⟩, ⟨by omega, by omega⟩, ?_⟩
  rw [h2]
  simp only [rngD0]
  refine lcW_fn (out := D.int) (fun k : Nat => (gi t (2 * (k : Nat)) + x * (gi t (2 * (k : Nat) + 1) - gi t (2 * (k : Nat)))) % p) _ (List.range (t.length / 2)) (fun k hk m2 Θ hΘ => ?_) (fun _ => rfl) (by rw [List.length_range]; show _ ≤ 16777216; omega) q
  have hk := List.mem_range.mp hk
  have g0 := ht.gi (z := 2 * (k : Nat)) (by omega) (by omega)
  have g1 := ht.gi (z := 2 * (k : Nat) + 1) (by omega) (by omega)
  walk_at "dl"
  refine ⟨mulR (by omega) (by omega), _, atI_gi (by omega) (by omega), mulR (by omega) (by omega), _, atI_gi (by omega) (by omega), mulR (by omega) (by omega), _, atI_gi (by omega) (by omega), ?_⟩
  walk_at "dl"
  exact ⟨.inr (.inl ⟨by omega, by omega⟩), by omega, hΘ⟩
/-! ### sums over a comprehension with two walks -/
end Dl

namespace Dl
open PySem L2
local macro_rules | `(tactic| walk_at "dl") => `(tactic| try simp only [dSeq, dSet, dRaise_one, dRaise_two, dTryAs, dXf, dIsE, List.lookup_cons, List.lookup_nil, beq_self_eq_true, Bool.false_eq_true, if_false, dOp, dUn, dVar, dC, dCB, dCons, dNil, dRet, dRetN, dIf, dB, dAnd, dOr, dNot, dDrop, dNext, dMethL, dSetIx, dAndV, dOrV, dNotV, dBlV, dIfE, dLst, dTup, dLstM, dCall, dChain, dAsg, dgName, dgTup, bindD, asT, dFor, diList, diRng1, diRng2, diEnumerate, diZip, diReversed, dLc, dLcM, dYes, wipeD, dAug, dSl, dSlT, dpN, dpS,
  oI, oI0, oB0, oAdd, oNeg, oEq, oNe, oIx, oIsN, oNotN, isNon, oShl, oApp, oPop, oPopAt, cLen, cInt, cAbs, cSum, cMax2, cMin2, cList, cIsi, tyD, asL, asF, asK, moL_lst, ModC, DivC,
  List.getElem?_cons_zero, List.getElem?_cons_succ, List.set_cons_zero, List.set_cons_succ, List.getElem?_nil, List.length_cons, List.length_nil, List.length_map, Option.map_some, Option.bind_some, Option.isSome_some, if_true, true_and, and_true, MM.push])
local macro_rules | `(tactic| walk_at "dx") => `(tactic| try simp only [eq_self_iff_true, okE_int, okE_bl, okE_non, eqD_int, eqD_bl, kq_NoneType_int, kq_NoneType_bool, kq_NoneType_list, kq_NoneType_tuple, kq_NoneType_str, kq_bool_int, kq_bool_bool, kq_bool_list, kq_bool_tuple, kq_bool_str, kq_int_int, kq_int_bool, kq_int_list, kq_int_tuple, kq_int_str, kq_str_int, kq_str_bool, kq_str_list, kq_str_tuple, kq_str_str, kq_list_int, kq_list_bool, kq_list_list, kq_list_tuple, kq_list_str, kq_tuple_int, kq_tuple_bool, kq_tuple_list, kq_tuple_tuple, kq_tuple_str, oInL, oIsB, oNotB, oEqH, oNeH, oShr, oExt, cMaxL, cMinL, cAny, cAll, cTuple, cListM, dRevL, dFld, dSetF, dAugF, dMeth, dMake, moI_ins, app_len, set_app, List.contains_cons, List.contains_nil, Bool.true_or,  Bool.true_eq_false, decide_true, not_true_eq_false, not_false_eq_true, Bool.not_true, Bool.not_false, decide_eq_true_eq, Bool.not_eq_true', decide_eq_false_iff_not, dSeq, dSet, dRaise_one, dRaise_two, dTryAs, dXf, dIsE, List.lookup_cons, List.lookup_nil, beq_self_eq_true, Bool.false_eq_true, if_false, dOp, dUn, dVar, dC, dCB, dCons, dNil, dRet, dRetN, dIf, dB, dAnd, dOr, dNot, dDrop, dNext, dMethL, dSetIx, dAndV, dOrV, dNotV, dBlV, dIfE, dLst, dTup, dLstM, dCall, dChain, dAsg, dgName, dgTup, bindD, asT, dFor, diList, diRng1, diRng2, diEnumerate, diZip, diReversed, dLc, dLcM, dYes, wipeD, dAug, dSl, dSlT, dpN, dpS,
  oI, oI0, oB0, oAdd, oNeg, oEq, oNe, oIx, oIsN, oNotN, isNon, oShl, oApp, oPop, oPopAt, cLen, cInt, cAbs, cSum, cMax2, cMin2, cList, cIsi, tyD, asL, asF, asK, moL_lst, ModC, DivC,
  List.getElem?_cons_zero, List.getElem?_cons_succ, List.set_cons_zero, List.set_cons_succ, List.getElem?_nil, List.length_cons, List.length_nil, List.length_map, Option.map_some, Option.bind_some, Option.isSome_some, if_true, true_and, and_true, MM.push])
local macro_rules | `(tactic| walk_at "lim") => `(tactic| repeat (first | (refine ⟨by decide, ?_⟩) | (refine ⟨by (try simp only [List.length_map, List.length_dropLast, List.length_append, List.length_cons, List.length_nil, List.length_replicate, List.length_take, List.length_drop, List.length_range]); (show _ ≤ 16777216); omega, ?_⟩)))

set_option hygiene false in
local macro_rules | `(tactic| walk_at "stp") => `(tactic| (refine dSeq_k fun k1 h1 => ?_; walk_at "dx"))
set_option hygiene false in
local macro_rules | `(tactic| walk_at "nxt") => `(tactic| (subst h1; (try dsimp only); refine dSeq_k fun k1 h1 => ?_; walk_at "dx"))
set_option hygiene false in
local macro_rules | `(tactic| walk_at "lst") => `(tactic| (subst h1; (try dsimp only); walk_at "dx"))
set_option hygiene false in
local macro_rules | `(tactic| walk_at "nxt2") => `(tactic| (subst h2; (try dsimp only); refine dSeq_k fun k2 h2 => ?_; walk_at "dx"))
set_option hygiene false in
local macro_rules | `(tactic| walk_at "stp2") => `(tactic| (refine dSeq_k fun k2 h2 => ?_; walk_at "dx"))
set_option hygiene false in
local macro_rules | `(tactic| walk_at "lst2") => `(tactic| (subst h2; (try dsimp only); walk_at "dx"))

/-! ### the asker of a sum -/
def sentD : Option (List Int) → D
  | none => .non
  | some vs => .lst (vs.map D.int)
def askF (p cl : Int) (degs : List Int) (j : Nat) (sent : Option (List Int)) : List (String × D) := [("p", .int p), ("claim", .int cl), ("degrees", .lst (degs.map D.int)), ("throws", .hnd j), ("sent", sentD sent)]
structure Ask (m : MM) (k j : Nat) (p cl : Int) (degs ths : List Int) (sent : Option (List Int)) : Prop where
  ob : m.M[k]? = some (.ins "SumAsker" (askF p cl degs j sent))
  th : m.M[j]? = some (.lst (ths.map D.int))
  pm : PM p
  pr : Prim p
  lt : ths.length ≤ degs.length
  ld : degs.length ≤ 1000
  se : ∀ vs, sent = some vs → InP p vs ∧ vs.length ≤ 1000 ∧ (vs.length : Int) ≤ p ∧ 0 < vs.length
theorem Ask.ne {m : MM} {k j : Nat} {p cl : Int} {degs ths : List Int} {sent : Option (List Int)} (h : Ask m k j p cl degs ths sent) : k ≠ j := fun e => by
  have a := h.ob
  rw [e, h.th] at a
  cases a
def C_SumAsker_init : DC := fun ds m Φ _ => ∃ (k : Nat) (p cl : Int) (degs : List Int), ds = [.hnd k, .int p, .int cl, .lst (degs.map D.int)] ∧ m.M[k]? = some (.ins "SumAsker" []) ∧ Φ .non ⟨m.M.set k (.ins "SumAsker" (askF p cl degs m.M.length none)) ++ [.lst []], m.s⟩
/-- the fields' classes, as a law has them -/
class Fl_SumAsker (fl : String → List String) : Prop where
  p : (fl "p").contains "SumAsker" = true
  claim : (fl "claim").contains "SumAsker" = true
  degrees : (fl "degrees").contains "SumAsker" = true
  throws : (fl "throws").contains "SumAsker" = true
  sent : (fl "sent").contains "SumAsker" = true
local macro_rules | `(tactic| walk_at "dz") => `(tactic| (walk_at "dx"; (try simp only [Fl_SumAsker.p, Fl_SumAsker.claim, Fl_SumAsker.degrees, Fl_SumAsker.throws, Fl_SumAsker.sent, true_and])))
def W_SumAsker_init (fl : String → List String) : DS := dSeq (dSetF (fl "p") "p" (dVar 1) (dVar 0)) (dSeq (dSetF (fl "claim") "claim" (dVar 2) (dVar 0)) (dSeq (dSetF (fl "degrees") "degrees" (dCB cList (dCons (dVar 3) (dNil))) (dVar 0)) (dSeq (dSetF (fl "throws") "throws" (dLstM (dNil)) (dVar 0)) (dSetF (fl "sent") "sent" (dC .non) (dVar 0)))))
theorem rd_SumAsker_init {fl : String → List String} (F : Fl_SumAsker fl) : ∀ ds m Φ Ψ, ds.length = 4 → C_SumAsker_init ds m Φ Ψ → W_SumAsker_init fl { nx := fun _ m' => Φ .non m', rt := Φ } (fun _ => Ψ) (ds.map some ++ List.replicate (4 - ds.length) none) m := by
  intro ds m Φ Ψ _ h
  obtain ⟨k, p, cl, degs, rfl, hk, q⟩ := h
  change W_SumAsker_init fl _ _ [some (.hnd k), some (.int p), some (.int cl), some (.lst (degs.map D.int))] m
  unfold W_SumAsker_init
  have hkl : k < m.M.length := by
    rcases Nat.lt_or_ge k m.M.length with z | z
    · exact z
    · rw [List.getElem?_eq_none z] at hk; cases hk
  refine dSeq_k fun k1 h1 => ?_
  walk_at "dz"
  simp only [hk]
  walk_at "dz"
  refine ⟨by decide, ?_⟩
  have g1 : ∀ o, (m.M.set k o)[k]? = some o := fun o => List.getElem?_set_self hkl
  have g2 : ∀ o1 o2 : MO, (m.M.set k o1).set k o2 = m.M.set k o2 := fun o1 o2 => List.set_set ..
  have g3 : ∀ o : MO, (m.M.set k o).length = m.M.length := fun o => List.length_set
  subst h1
  refine dSeq_k fun k1 h1 => ?_
  walk_at "dz"
  simp only [g1, g2]
  walk_at "dz"
  refine ⟨by simp [putD], ?_⟩
  subst h1
  refine dSeq_k fun k1 h1 => ?_
  walk_at "dz"
  simp only [g1, g2]
  walk_at "dz"
  refine ⟨by simp [putD], ?_⟩
  subst h1
  have g4 : ∀ (o : MO) (L : List MO), (m.M.set k o ++ L)[k]? = some o := fun o L => by
    rw [List.getElem?_append_left (by rw [g3]; exact hkl)]; exact g1 o
  have g5 : ∀ (o o2 : MO) (L : List MO), (m.M.set k o ++ L).set k o2 = m.M.set k o2 ++ L := fun o o2 L => by
    rw [List.set_append_left _ _ (by rw [g3]; exact hkl), g2]
  refine dSeq_k fun k1 h1 => ?_
  walk_at "dz"
  simp only [g4, g5, g3]
  walk_at "dz"
  refine ⟨by simp [putD], ?_⟩
  subst h1
  walk_at "dz"
  simp only [g4, g5, g3]
  walk_at "dz"
  refine ⟨by simp [putD], ?_⟩
  have e : putD "sent" D.non (putD "throws" (D.hnd m.M.length) (putD "degrees" (D.lst (List.map D.int degs)) (putD "claim" (D.int cl) (putD "p" (D.int p) [])))) = askF p cl degs m.M.length none := by
    simp [putD, askF, sentD]
  rw [e]
  exact ⟨by simp [putD], q⟩
def C_SumAsker_is_done : DC := fun ds m Φ _ => ∃ (k j : Nat) (p cl : Int) (degs ths : List Int) (sent : Option (List Int)), ds = [.hnd k] ∧ Ask m k j p cl degs ths sent ∧ Φ (.bl (decide (ths.length = degs.length))) m
def W_SumAsker_is_done (fl : String → List String) : DS := dRet (dOp oEq (dCB cLen (dCons (dFld (fl "throws") "throws" (dVar 0)) (dNil))) (dCB cLen (dCons (dFld (fl "degrees") "degrees" (dVar 0)) (dNil))))
theorem rd_SumAsker_is_done {fl : String → List String} (F : Fl_SumAsker fl) : ∀ ds m Φ Ψ, ds.length = 1 → C_SumAsker_is_done ds m Φ Ψ → W_SumAsker_is_done fl { nx := fun _ m' => Φ .non m', rt := Φ } (fun _ => Ψ) (ds.map some ++ List.replicate (1 - ds.length) none) m := by
  intro ds m Φ Ψ _ h
  obtain ⟨k, j, p, cl, degs, ths, sent, rfl, a, q⟩ := h
  change W_SumAsker_is_done fl _ _ [some (.hnd k)] m
  unfold W_SumAsker_is_done
  have ob := a.ob
  have th := a.th
  unfold askF at ob
  walk_at "dz"
  simp only [ob, th]
  walk_at "dz"
  refine ⟨.hnd j, rfl, ?_⟩
  walk_at "dz"
  simp only [th]
  walk_at "dz"
  refine ⟨.lst (degs.map D.int), rfl, ?_⟩
  walk_at "dz"
  have e : decide (((ths.length : Nat) : Int) = ((degs.length : Nat) : Int)) = decide (ths.length = degs.length) := decide_eq_decide.mpr (by omega)
  first | (rw [e]; exact q) | (simp only [List.length_map] at *; rw [e]; exact q)
def askC (vs : List Int) (p cl : Int) (degs ths : List Int) : Bool := decide ((vs.length : Int) = gi degs (ths.length : Nat) + 1) && (vs.all (fun v => decide (0 ≤ v ∧ v < p)) && decide (cornV vs p = cl))
def C_SumAsker_throw : DC := fun ds m Φ Ψ => ∃ (k j : Nat) (p cl t : Int) (degs ths : List Int) (sent : Option (List Int)), ds = [.hnd k, .int t] ∧ Ask m k j p cl degs ths sent ∧ (sent = none → Ψ "TalkError" [("step", .str (PySem.Str.ofString "throw"))] m) ∧
  ∀ vs, sent = some vs → 0 ≤ t ∧ Φ .non ⟨(m.M.set k (.ins "SumAsker" (askF p (valV vs t p) degs j none))).set j (.lst ((ths ++ [t]).map D.int)), m.s⟩
def W_SumAsker_throw (fl : String → List String) : DS := dSeq (dIf (dB (dOp oIsN (dFld (fl "sent") "sent" (dVar 0)) (dC .non))) (dRaise "TalkError" ["step"] (dCons (dC (.str (PySem.Str.ofString "throw"))) (dNil))) (dNext)) (dSeq (dSetF (fl "claim") "claim" (dCall 3 C_value (dCons (dFld (fl "sent") "sent" (dVar 0)) (dCons (dVar 1) (dCons (dFld (fl "p") "p" (dVar 0)) (dNil))))) (dVar 0)) (dSeq (dDrop (dMethL oApp (dFld (fl "throws") "throws" (dVar 0)) (dCons (dVar 1) (dNil)))) (dSetF (fl "sent") "sent" (dC .non) (dVar 0))))
theorem rd_SumAsker_throw {fl : String → List String} (F : Fl_SumAsker fl) : ∀ ds m Φ Ψ, ds.length = 2 → C_SumAsker_throw ds m Φ Ψ → W_SumAsker_throw fl { nx := fun _ m' => Φ .non m', rt := Φ } (fun _ => Ψ) (ds.map some ++ List.replicate (2 - ds.length) none) m := by
  intro ds m Φ Ψ _ h
  obtain ⟨k, j, p, cl, t, degs, ths, sent, rfl, a, q1, q2⟩ := h
  change W_SumAsker_throw fl _ _ [some (.hnd k), some (.int t)] m
  unfold W_SumAsker_throw
  have ob := a.ob
  have th := a.th
  have nkj := a.ne
  have ll := a.lt
  have ld := a.ld
  have hkl : k < m.M.length := by
    rcases Nat.lt_or_ge k m.M.length with z | z
    · exact z
    · rw [List.getElem?_eq_none z] at ob; cases ob
  have hjl : j < m.M.length := by
    rcases Nat.lt_or_ge j m.M.length with z | z
    · exact z
    · rw [List.getElem?_eq_none z] at th; cases th
  unfold askF at ob
  refine dSeq_k fun k1 h1 => ?_
  walk_at "dz"
  simp only [ob]
  walk_at "dz"
  refine ⟨sentD sent, rfl, ?_⟩
  cases sent with
  | none =>
    unfold sentD
    walk_at "dz"
    exact q1 rfl
  | some vs =>
    obtain ⟨t0, q⟩ := q2 vs rfl
    obtain ⟨v1, v2, v3, v4⟩ := a.se vs rfl
    unfold sentD at ob ⊢
    walk_at "dz"
    subst h1
    refine dSeq_k fun k1 h1 => ?_
    walk_at "dz"
    simp only [ob]
    walk_at "dz"
    refine ⟨_, rfl, _, rfl, vs, t, p, rfl, a.pm, a.pr, v1, v2, v3, t0, ?_⟩
    simp only [ob]
    walk_at "dz"
    have g1 : ∀ o, (m.M.set k o)[k]? = some o := fun o => List.getElem?_set_self hkl
    have g2 : ∀ o1 o2 : MO, (m.M.set k o1).set k o2 = m.M.set k o2 := fun o1 o2 => List.set_set ..
    have g3 : ∀ o : MO, (m.M.set k o)[j]? = some (MO.lst (ths.map D.int)) := fun o => by rw [List.getElem?_set_ne nkj]; exact th
    have g4 : ∀ o o2 : MO, ((m.M.set k o).set j o2)[k]? = some o := fun o o2 => by rw [List.getElem?_set_ne (Ne.symm nkj)]; exact g1 o
    have g5 : ∀ o o2 o3 : MO, ((m.M.set k o).set j o2).set k o3 = (m.M.set k o3).set j o2 := fun o o2 o3 => by rw [List.set_comm _ _ (Ne.symm nkj), g2]
    refine ⟨by simp, ?_⟩
    subst h1
    refine dSeq_k fun k1 h1 => ?_
    walk_at "dz"
    simp only [g1, g3]
    simp only [putD, reduceIte, String.reduceEq]
    refine ⟨F.throws, .hnd j, rfl, ?_⟩
    walk_at "dz"
    simp only [g3, moL_lst]
    refine ⟨rfl, by show _ < 16777216; rw [List.length_map]; omega, ?_⟩
    subst h1
    walk_at "dz"
    simp only [g4, g5]
    refine ⟨F.sent, by simp, ?_⟩
    rw [List.map_append] at q
    simpa [putD, askF, sentD] using q
def C_SumAsker_accept : DC := fun ds m Φ Ψ => ∃ (k j : Nat) (p cl : Int) (degs ths : List Int) (sent : Option (List Int)) (vs : List Int), ds = [.hnd k, .lst (vs.map D.int)] ∧ Ask m k j p cl degs ths sent ∧ vs.length ≤ 1000 ∧
  (¬ (ths.length < degs.length ∧ sent = none) → Ψ "TalkError" [("step", .str (PySem.Str.ofString "polynomial"))] m) ∧
  (ths.length < degs.length → sent = none → 0 ≤ gi degs (ths.length : Nat) ∧ Φ (.bl (askC vs p cl degs ths)) ⟨if askC vs p cl degs ths = true then m.M.set k (.ins "SumAsker" (askF p cl degs j (some vs))) else m.M, m.s⟩)
def W_SumAsker_accept (fl : String → List String) : DS := dSeq (dIf (dOr (dB (dMeth [("SumAsker", C_SumAsker_is_done)] "is_done" 0 (dVar 0) dNil)) (dB (dOp oNotN (dFld (fl "sent") "sent" (dVar 0)) (dC .non)))) (dRaise "TalkError" ["step"] (dCons (dC (.str (PySem.Str.ofString "polynomial"))) (dNil))) (dNext)) (dSeq (dIf (dB (dOp oNe (dCB cLen (dCons (dVar 1) (dNil))) (dOp oAdd (dOp oIx (dFld (fl "degrees") "degrees" (dVar 0)) (dCB cLen (dCons (dFld (fl "throws") "throws" (dVar 0)) (dNil)))) (dC (.int 1))))) (dRet (dC (.bl false))) (dNext)) (dSeq (dIf (dNot (dB (dCB cAll (dCons (dLc (diList (dVar 1)) (dgName 2) (dYes) (dCall 2 C_is_number (dCons (dVar 2) (dCons (dFld (fl "p") "p" (dVar 0)) (dNil)))) [2]) (dNil))))) (dRet (dC (.bl false))) (dNext)) (dSeq (dIf (dB (dOp oNe (dCall 2 C_corners (dCons (dVar 1) (dCons (dFld (fl "p") "p" (dVar 0)) (dNil)))) (dFld (fl "claim") "claim" (dVar 0)))) (dRet (dC (.bl false))) (dNext)) (dSeq (dSetF (fl "sent") "sent" (dCB cList (dCons (dVar 1) (dNil))) (dVar 0)) (dRet (dC (.bl true)))))))
theorem rd_SumAsker_accept {fl : String → List String} (F : Fl_SumAsker fl) : ∀ ds m Φ Ψ, ds.length = 2 → C_SumAsker_accept ds m Φ Ψ → W_SumAsker_accept fl { nx := fun _ m' => Φ .non m', rt := Φ } (fun _ => Ψ) (ds.map some ++ List.replicate (3 - ds.length) none) m := by
  intro ds m Φ Ψ _ h
  obtain ⟨k, j, p, cl, degs, ths, sent, vs, rfl, a, hvl, q1, q2⟩ := h
  change W_SumAsker_accept fl _ _ [some (.hnd k), some (.lst (vs.map D.int)), none] m
  unfold W_SumAsker_accept
  have ob := a.ob
  have th := a.th
  have ll := a.lt
  have ld := a.ld
  have hp1 := a.pm.1
  have hkl : k < m.M.length := by
    rcases Nat.lt_or_ge k m.M.length with z | z
    · exact z
    · rw [List.getElem?_eq_none z] at ob; cases ob
  have ob' := ob
  unfold askF at ob
  refine dSeq_k fun k1 h1 => ?_
  walk_at "dz"
  simp only [ob]
  walk_at "dz"
  refine ⟨rfl, k, j, p, cl, degs, ths, sent, rfl, a, ?_⟩
  walk_at "dz"
  by_cases hdn : ths.length = degs.length
  · rw [if_pos hdn]
    exact q1 (fun z => by omega)
  rw [if_neg hdn]
  simp only [ob]
  refine ⟨F.sent, sentD sent, rfl, ?_⟩
  cases sent with
  | some vs' =>
    unfold sentD
    walk_at "dz"
    exact q1 (fun z => by cases z.2)
  | none =>
    obtain ⟨d0, q⟩ := q2 (by omega) rfl
    unfold sentD at ob ⊢
    walk_at "dz"
    subst h1
    refine dSeq_k fun k1 h1 => ?_
    walk_at "dz"
    simp only [ob]
    refine ⟨F.degrees, .lst (degs.map D.int), rfl, F.throws, .hnd j, rfl, ?_⟩
    walk_at "dz"
    simp only [th, moL_lst]
    refine ⟨.int (gi degs (ths.length : Nat)), by rw [List.length_map]; exact atI_gi (by omega) (by omega), ?_⟩
    walk_at "dz"
    have bad : askC vs p cl degs ths = false → Φ (.bl false) m := fun z => by
      rw [z, if_neg (by decide)] at q
      exact q
    by_cases e1 : (vs.length : Int) = gi degs (ths.length : Nat) + 1
    rotate_left
    · rw [if_pos e1]
      exact bad (by unfold askC; rw [decide_eq_false e1]; rfl)
    rw [if_neg (fun z => z e1)]
    subst h1
    refine dSeq_k fun k1 h1 => ?_
    walk_at "dz"
    refine lcW_fnM (inj := D.int) (out := D.bl) (fun v => decide (0 ≤ v ∧ v < p)) m vs ?_ (fun _ => rfl) (by show _ ≤ 16777216; omega) ?_
    · intro v hv acc Θ hΘ
      have ob2 : (m.M ++ [MO.lst acc])[k]? = m.M[k]? := List.getElem?_append_left hkl
      walk_at "dz"
      simp only [ob2, ob]
      refine ⟨F.p, .int p, rfl, v, p, rfl, hΘ⟩
    walk_at "dz"
    have eb : (vs.map fun v => decide (0 ≤ v ∧ v < p)).all id = vs.all fun v => decide (0 ≤ v ∧ v < p) := by rw [List.all_map]; rfl
    have bm : ∀ bs : List Bool, blsD (bs.map D.bl) = some bs := fun bs => by
      induction bs with
      | nil => rfl
      | cons b bs ih => show (blsD (bs.map D.bl)).map (b :: ·) = _; rw [ih]; rfl
    refine ⟨_, bm _, ?_⟩
    rw [eb]
    cases e2 : vs.all fun v => decide (0 ≤ v ∧ v < p) with
    | false =>
      rw [if_pos rfl]
      exact bad (by unfold askC; rw [e2]; simp)
    | true =>
      rw [if_neg (by decide)]
      have vi : InP p vs := fun x hx => of_decide_eq_true (List.all_eq_true.mp e2 x hx)
      subst h1
      refine dSeq_k fun k1 h1 => ?_
      walk_at "dz"
      simp only [ob]
      refine ⟨F.p, .int p, rfl, vs, p, rfl, a.pm, vi, by omega, ?_⟩
      walk_at "dz"
      simp only [ob]
      refine ⟨F.claim, .int cl, rfl, ?_⟩
      walk_at "dz"
      by_cases e3 : cornV vs p = cl
      rotate_left
      · rw [if_pos e3]
        exact bad (by unfold askC; rw [e2, decide_eq_false e3]; simp)
      rw [if_neg (fun z => z e3)]
      have z : askC vs p cl degs ths = true := by unfold askC; rw [e2, decide_eq_true e3, decide_eq_true e1]; rfl
      rw [z, if_pos rfl] at q
      subst h1
      refine dSeq_k fun k1 h1 => ?_
      walk_at "dz"
      simp only [ob]
      refine ⟨F.sent, by simp, ?_⟩
      subst h1
      walk_at "dz"
      simpa [putD, askF, sentD] using q
end Dl

namespace Dl
open PySem L2
local macro_rules | `(tactic| walk_at "dl") => `(tactic| try simp only [dSeq, dSet, dRaise_one, dRaise_two, dTryAs, dXf, dIsE, List.lookup_cons, List.lookup_nil, beq_self_eq_true, Bool.false_eq_true, if_false, dOp, dUn, dVar, dC, dCB, dCons, dNil, dRet, dRetN, dIf, dB, dAnd, dOr, dNot, dDrop, dNext, dMethL, dSetIx, dAndV, dOrV, dNotV, dBlV, dIfE, dLst, dTup, dLstM, dCall, dChain, dAsg, dgName, dgTup, bindD, asT, dFor, diList, diRng1, diRng2, diEnumerate, diZip, diReversed, dLc, dLcM, dYes, wipeD, dAug, dSl, dSlT, dpN, dpS,
  oI, oI0, oB0, oAdd, oNeg, oEq, oNe, oIx, oIsN, oNotN, isNon, oShl, oApp, oPop, oPopAt, cLen, cInt, cAbs, cSum, cMax2, cMin2, cList, cIsi, tyD, asL, asF, asK, moL_lst, ModC, DivC,
  List.getElem?_cons_zero, List.getElem?_cons_succ, List.set_cons_zero, List.set_cons_succ, List.getElem?_nil, List.length_cons, List.length_nil, List.length_map, Option.map_some, Option.bind_some, Option.isSome_some, if_true, true_and, and_true, MM.push])
local macro_rules | `(tactic| walk_at "dx") => `(tactic| try simp only [eq_self_iff_true, okE_int, okE_bl, okE_non, eqD_int, eqD_bl, kq_NoneType_int, kq_NoneType_bool, kq_NoneType_list, kq_NoneType_tuple, kq_NoneType_str, kq_bool_int, kq_bool_bool, kq_bool_list, kq_bool_tuple, kq_bool_str, kq_int_int, kq_int_bool, kq_int_list, kq_int_tuple, kq_int_str, kq_str_int, kq_str_bool, kq_str_list, kq_str_tuple, kq_str_str, kq_list_int, kq_list_bool, kq_list_list, kq_list_tuple, kq_list_str, kq_tuple_int, kq_tuple_bool, kq_tuple_list, kq_tuple_tuple, kq_tuple_str, oInL, oIsB, oNotB, oEqH, oNeH, oShr, oExt, cMaxL, cMinL, cAny, cAll, cTuple, cListM, dRevL, dFld, dSetF, dAugF, dMeth, dMake, moI_ins, app_len, set_app, List.contains_cons, List.contains_nil, Bool.true_or,  Bool.true_eq_false, decide_true, not_true_eq_false, not_false_eq_true, Bool.not_true, Bool.not_false, decide_eq_true_eq, Bool.not_eq_true', decide_eq_false_iff_not, dSeq, dSet, dRaise_one, dRaise_two, dTryAs, dXf, dIsE, List.lookup_cons, List.lookup_nil, beq_self_eq_true, Bool.false_eq_true, if_false, dOp, dUn, dVar, dC, dCB, dCons, dNil, dRet, dRetN, dIf, dB, dAnd, dOr, dNot, dDrop, dNext, dMethL, dSetIx, dAndV, dOrV, dNotV, dBlV, dIfE, dLst, dTup, dLstM, dCall, dChain, dAsg, dgName, dgTup, bindD, asT, dFor, diList, diRng1, diRng2, diEnumerate, diZip, diReversed, dLc, dLcM, dYes, wipeD, dAug, dSl, dSlT, dpN, dpS,
  oI, oI0, oB0, oAdd, oNeg, oEq, oNe, oIx, oIsN, oNotN, isNon, oShl, oApp, oPop, oPopAt, cLen, cInt, cAbs, cSum, cMax2, cMin2, cList, cIsi, tyD, asL, asF, asK, moL_lst, ModC, DivC,
  List.getElem?_cons_zero, List.getElem?_cons_succ, List.set_cons_zero, List.set_cons_succ, List.getElem?_nil, List.length_cons, List.length_nil, List.length_map, Option.map_some, Option.bind_some, Option.isSome_some, if_true, true_and, and_true, MM.push])
local macro_rules | `(tactic| walk_at "lim") => `(tactic| repeat (first | (refine ⟨by decide, ?_⟩) | (refine ⟨by (try simp only [List.length_map, List.length_dropLast, List.length_append, List.length_cons, List.length_nil, List.length_replicate, List.length_take, List.length_drop, List.length_range]); (show _ ≤ 16777216); omega, ?_⟩)))

set_option hygiene false in
local macro_rules | `(tactic| walk_at "stp") => `(tactic| (refine dSeq_k fun k1 h1 => ?_; walk_at "dx"))
set_option hygiene false in
local macro_rules | `(tactic| walk_at "nxt") => `(tactic| (subst h1; (try dsimp only); refine dSeq_k fun k1 h1 => ?_; walk_at "dx"))
set_option hygiene false in
local macro_rules | `(tactic| walk_at "lst") => `(tactic| (subst h1; (try dsimp only); walk_at "dx"))
set_option hygiene false in
local macro_rules | `(tactic| walk_at "nxt2") => `(tactic| (subst h2; (try dsimp only); refine dSeq_k fun k2 h2 => ?_; walk_at "dx"))
set_option hygiene false in
local macro_rules | `(tactic| walk_at "stp2") => `(tactic| (refine dSeq_k fun k2 h2 => ?_; walk_at "dx"))
set_option hygiene false in
local macro_rules | `(tactic| walk_at "lst2") => `(tactic| (subst h2; (try dsimp only); walk_at "dx"))

def corn (i left : Nat) : List Int := (List.range left).map fun j : Nat => ((i / 2 ^ j % 2 : Nat) : Int)
theorem cutT {xs : List D} {k : Nat} (h : k ≤ xs.length) : cutD xs none (some (k : Nat)) = xs.take k := by
  unfold cutD
  rw [HT.sIx_none, HT.sIx_nat, List.drop_zero, Nat.min_eq_left h, Nat.sub_zero]
theorem no_l {ws vs degs ths : List Int} {p cl : Int} (hl : ws.length ≠ vs.length) (e : (vs.length : Int) = gi degs (ths.length : Nat) + 1) : askC ws p cl degs ths = false := by
  unfold askC
  rw [decide_eq_false (by omega)]; rfl
theorem no_v {ws degs ths : List Int} {p cl v : Int} (hv : v ∈ ws) (h : ¬ (0 ≤ v ∧ v < p)) : askC ws p cl degs ths = false := by
  unfold askC
  have e : (ws.all fun v => decide (0 ≤ v ∧ v < p)) = false := by
    rw [Bool.eq_false_iff]
    intro z
    exact h (of_decide_eq_true (List.all_eq_true.mp z v hv))
  rw [e]; simp
theorem no_c {ws degs ths : List Int} {p cl : Int} (h : cornV ws p ≠ cl) : askC ws p cl degs ths = false := by
  unfold askC
  rw [decide_eq_false h]; simp
/-! ### the plain law: sums over corners, one variable at a time -/
theorem foldl_in {p : Int} (hp : 2 ≤ p) : ∀ (pt : List Int) (t : List Int), InP p t → InP p (pt.foldl (foldS p) t)
  | [], _, h => h
  | x :: pt, t, _ => foldl_in hp pt _ (foldS_in hp)
theorem foldl_len {p : Int} : ∀ (pt : List Int) (t : List Int) (l : Nat), t.length = 2 ^ (pt.length + l) → (pt.foldl (foldS p) t).length = 2 ^ l
  | [], t, l, h => by simpa using h
  | x :: pt, t, l, h => foldl_len pt _ l (by rw [foldS_len, h, List.length_cons, show pt.length + 1 + l = (pt.length + l) + 1 by omega, Nat.pow_succ]; omega)
theorem corn_succ {i l : Nat} : corn i (l + 1) = ((i % 2 : Nat) : Int) :: corn (i / 2) l := by
  unfold corn
  rw [List.range_succ_eq_map, List.map_cons, List.map_map]
  congr 1
  · rw [Nat.pow_zero, Nat.div_one]
  · refine List.map_congr_left fun j _ => ?_
    show ((i / 2 ^ (j + 1) % 2 : Nat) : Int) = _
    rw [Nat.div_div_eq_div_mul, ← Nat.pow_succ']
theorem rep_flat {x : Int} : ∀ n : Nat, (List.replicate n [D.int x]).flatten = (List.replicate n x).map D.int
  | 0 => rfl
  | n + 1 => by rw [List.replicate_succ, List.flatten_cons, rep_flat n]; rfl
/-! ### polynomials by any values -/
theorem S_one {f : Nat → Int} {i : Nat} (h : ∀ k, k ≠ i → f k = 0) : ∀ n : Nat, S n f = if i < n then f i else 0
  | 0 => rfl
  | n + 1 => by
    show S n f + f n = _
    rw [S_one h n]
    by_cases z : i < n
    · rw [if_pos z, if_pos (by omega), h n (by omega)]; omega
    · rw [if_neg z]
      by_cases e : n = i
      · subst e; rw [if_pos (by omega)]; omega
      · rw [if_neg (by omega), h n e]; omega
end Dl

namespace Dl
open PySem L2
local macro_rules | `(tactic| walk_at "dl") => `(tactic| try simp only [dSeq, dSet, dRaise_one, dRaise_two, dTryAs, dXf, dIsE, List.lookup_cons, List.lookup_nil, beq_self_eq_true, Bool.false_eq_true, if_false, dOp, dUn, dVar, dC, dCB, dCons, dNil, dRet, dRetN, dIf, dB, dAnd, dOr, dNot, dDrop, dNext, dMethL, dSetIx, dAndV, dOrV, dNotV, dBlV, dIfE, dLst, dTup, dLstM, dCall, dChain, dAsg, dgName, dgTup, bindD, asT, dFor, diList, diRng1, diRng2, diEnumerate, diZip, diReversed, dLc, dLcM, dYes, wipeD, dAug, dSl, dSlT, dpN, dpS,
  oI, oI0, oB0, oAdd, oNeg, oEq, oNe, oIx, oIsN, oNotN, isNon, oShl, oApp, oPop, oPopAt, cLen, cInt, cAbs, cSum, cMax2, cMin2, cList, cIsi, tyD, asL, asF, asK, moL_lst, ModC, DivC,
  List.getElem?_cons_zero, List.getElem?_cons_succ, List.set_cons_zero, List.set_cons_succ, List.getElem?_nil, List.length_cons, List.length_nil, List.length_map, Option.map_some, Option.bind_some, Option.isSome_some, if_true, true_and, and_true, MM.push])
local macro_rules | `(tactic| walk_at "dx") => `(tactic| try simp only [eq_self_iff_true, okE_int, okE_bl, okE_non, eqD_int, eqD_bl, kq_NoneType_int, kq_NoneType_bool, kq_NoneType_list, kq_NoneType_tuple, kq_NoneType_str, kq_bool_int, kq_bool_bool, kq_bool_list, kq_bool_tuple, kq_bool_str, kq_int_int, kq_int_bool, kq_int_list, kq_int_tuple, kq_int_str, kq_str_int, kq_str_bool, kq_str_list, kq_str_tuple, kq_str_str, kq_list_int, kq_list_bool, kq_list_list, kq_list_tuple, kq_list_str, kq_tuple_int, kq_tuple_bool, kq_tuple_list, kq_tuple_tuple, kq_tuple_str, oInL, oIsB, oNotB, oEqH, oNeH, oShr, oExt, cMaxL, cMinL, cAny, cAll, cTuple, cListM, dRevL, dFld, dSetF, dAugF, dMeth, dMake, moI_ins, app_len, set_app, List.contains_cons, List.contains_nil, Bool.true_or,  Bool.true_eq_false, decide_true, not_true_eq_false, not_false_eq_true, Bool.not_true, Bool.not_false, decide_eq_true_eq, Bool.not_eq_true', decide_eq_false_iff_not, dSeq, dSet, dRaise_one, dRaise_two, dTryAs, dXf, dIsE, List.lookup_cons, List.lookup_nil, beq_self_eq_true, Bool.false_eq_true, if_false, dOp, dUn, dVar, dC, dCB, dCons, dNil, dRet, dRetN, dIf, dB, dAnd, dOr, dNot, dDrop, dNext, dMethL, dSetIx, dAndV, dOrV, dNotV, dBlV, dIfE, dLst, dTup, dLstM, dCall, dChain, dAsg, dgName, dgTup, bindD, asT, dFor, diList, diRng1, diRng2, diEnumerate, diZip, diReversed, dLc, dLcM, dYes, wipeD, dAug, dSl, dSlT, dpN, dpS,
  oI, oI0, oB0, oAdd, oNeg, oEq, oNe, oIx, oIsN, oNotN, isNon, oShl, oApp, oPop, oPopAt, cLen, cInt, cAbs, cSum, cMax2, cMin2, cList, cIsi, tyD, asL, asF, asK, moL_lst, ModC, DivC,
  List.getElem?_cons_zero, List.getElem?_cons_succ, List.set_cons_zero, List.set_cons_succ, List.getElem?_nil, List.length_cons, List.length_nil, List.length_map, Option.map_some, Option.bind_some, Option.isSome_some, if_true, true_and, and_true, MM.push])
local macro_rules | `(tactic| walk_at "lim") => `(tactic| repeat (first | (refine ⟨by decide, ?_⟩) | (refine ⟨by (try simp only [List.length_map, List.length_dropLast, List.length_append, List.length_cons, List.length_nil, List.length_replicate, List.length_take, List.length_drop, List.length_range]); (show _ ≤ 16777216); omega, ?_⟩)))

set_option hygiene false in
local macro_rules | `(tactic| walk_at "stp") => `(tactic| (refine dSeq_k fun k1 h1 => ?_; walk_at "dx"))
set_option hygiene false in
local macro_rules | `(tactic| walk_at "nxt") => `(tactic| (subst h1; (try dsimp only); refine dSeq_k fun k1 h1 => ?_; walk_at "dx"))
set_option hygiene false in
local macro_rules | `(tactic| walk_at "lst") => `(tactic| (subst h1; (try dsimp only); walk_at "dx"))
set_option hygiene false in
local macro_rules | `(tactic| walk_at "nxt2") => `(tactic| (subst h2; (try dsimp only); refine dSeq_k fun k2 h2 => ?_; walk_at "dx"))
set_option hygiene false in
local macro_rules | `(tactic| walk_at "stp2") => `(tactic| (refine dSeq_k fun k2 h2 => ?_; walk_at "dx"))
set_option hygiene false in
local macro_rules | `(tactic| walk_at "lst2") => `(tactic| (subst h2; (try dsimp only); walk_at "dx"))

/-! ### cubes -/
def ptStep (p : Int) (t : List Int) (x : Int) : List Int := t.map (fun e => (1 - x) * e % p) ++ t.map (fun e => x * e % p)
def pointT (pt : List Int) (p : Int) : List Int := pt.foldl (ptStep p) [1 % p]
def C_point_table : DC := fun ds m Φ _ => ∃ (pt : List Int) (p : Int), ds = [.lst (pt.map D.int), .int p] ∧ PM p ∧ pt.length ≤ 16 ∧ Φ (.lst ((pointT pt p).map D.int)) m
def valAt (t pt : List Int) (p : Int) : Int := gi (pt.foldl (foldS p) t) 0 % p
def nrF (p : Int) (ot : List Int) : Nat → List Int → Int → Int
  | _, [], r => r
  | i, x :: xs, r => nrF p ot (i + 1) xs (r * (x * gi ot (i : Nat) + (1 - x) * (1 - gi ot (i : Nat))) % p)
theorem ptStep_len {p x : Int} {t : List Int} : (ptStep p t x).length = 2 * t.length := by
  unfold ptStep
  rw [List.length_append, List.length_map, List.length_map]; omega
theorem ptStep_in {p x : Int} (hp : 2 ≤ p) {t : List Int} : InP p (ptStep p t x) := fun y hy => by
  unfold ptStep at hy
  rcases List.mem_append.mp hy with h | h
  · exact inP_mod hp (fun e => (1 - x) * e) t y h
  · exact inP_mod hp (fun e => x * e) t y h
def W_point_table : DS := dSeq (dSet 2 (dLst (dCons (dOp oMod (dC (.int 1)) (dVar 1)) (dNil)))) (dSeq (dFor (diList (dVar 0)) (dgName 3) (dSeq (dSet 4 (dLc (diList (dVar 2)) (dgName 6) (dYes) (dOp oMod (dOp oMul (dOp oSub (dC (.int 1)) (dVar 3)) (dVar 6)) (dVar 1)) [6])) (dSeq (dSet 5 (dLc (diList (dVar 2)) (dgName 6) (dYes) (dOp oMod (dOp oMul (dVar 3) (dVar 6)) (dVar 1)) [6])) (dSet 2 (dOp oAdd (dVar 4) (dVar 5)))))) (dRet (dVar 2)))
theorem rd_point_table : ∀ ds m Φ Ψ, ds.length = 2 → C_point_table ds m Φ Ψ → W_point_table { nx := fun _ m' => Φ .non m', rt := Φ } (fun _ => Ψ) (ds.map some ++ List.replicate (7 - ds.length) none) m := by
  intro ds m Φ Ψ _ h
  obtain ⟨pt, p, rfl, ⟨hp, hp2⟩, hl, q⟩ := h
  change W_point_table _ _ [some (D.lst (pt.map D.int)), some (.int p), none, none, none, none, none] m
  unfold W_point_table
  walk_at "dl"
  refine ⟨by omega, by decide, ?_⟩
  refine forW_map (inj := D.int) (fun r ρ m' => ∃ (t : List Int) (a b c d : Option D), ρ = [some (D.lst (pt.map D.int)), some (.int p), some (.lst (t.map D.int)), a, b, c, d] ∧ m' = m ∧ InP p t ∧ t.length * 2 ^ r.length ≤ 65536 ∧ r.foldl (ptStep p) t = pointT pt p) ?_ ?_ pt _ _ ⟨[1 % p], none, none, none, none, rfl, rfl, ?_, ?_, rfl⟩
  · rintro x r kk hk ρ m' ⟨t, a, b, c, d, rfl, rfl, ht, hz, hf⟩
    have hlen : t.length ≤ 65536 := by
      have h1 : t.length * 1 ≤ t.length * 2 ^ (x :: r).length := Nat.mul_le_mul_left _ (Nat.one_le_two_pow)
      omega
    walk_at "dl"
    refine lcW_fn (out := D.int) (fun e => (1 - x) * e % p) _ t (fun e he m2 Θ hΘ => ?_) (fun _ => rfl) (by show t.length ≤ 16777216; omega) ?_
    · walk_at "dl"
      exact ⟨mulR (ht e he).1 (by have := (ht e he).2; omega), by omega, hΘ⟩
    walk_at "dl"
    refine lcW_fn (out := D.int) (fun e => x * e % p) _ t (fun e he m2 Θ hΘ => ?_) (fun _ => rfl) (by show t.length ≤ 16777216; omega) ?_
    · walk_at "dl"
      exact ⟨mulR (ht e he).1 (by have := (ht e he).2; omega), by omega, hΘ⟩
    walk_at "dl"
    refine ⟨by show t.length + t.length ≤ 16777216; omega, ?_⟩
    rw [← List.map_append]
    change kk [some (D.lst (List.map D.int pt)), some (.int p), some (D.lst ((ptStep p t x).map D.int)), _, _, _, _] m'
    refine hk _ _ ⟨ptStep p t x, _, _, _, _, rfl, rfl, ptStep_in hp, ?_, hf⟩
    · rw [ptStep_len]
      rw [List.length_cons, Nat.pow_succ] at hz
      rw [Nat.mul_comm 2 t.length, Nat.mul_assoc, Nat.mul_comm 2 (2 ^ r.length)]
      exact hz
  · rintro ρ m' ⟨t, a, b, c, d, rfl, rfl, ht, hz, hf⟩
    walk_at "dl"
    have e : t = pointT pt p := hf
    rw [e]
    exact q
  · intro y hy
    have e : y = 1 % p := by simpa using hy
    rw [e]
    exact ⟨Int.emod_nonneg _ (by omega), Int.emod_lt_of_pos _ (by omega)⟩
  · have h1 : 2 ^ pt.length ≤ 2 ^ 16 := Nat.pow_le_pow_right (by decide) hl
    have h2 : (2 : Nat) ^ 16 = 65536 := by decide
    rw [List.length_singleton]; omega
theorem ptFold_len (p : Int) : ∀ (pt t : List Int), (pt.foldl (ptStep p) t).length = t.length * 2 ^ pt.length
  | [], t => by simp
  | x :: r, t => by
    rw [List.foldl_cons, ptFold_len p r, ptStep_len, List.length_cons, Nat.pow_succ, Nat.mul_comm 2 t.length, Nat.mul_assoc, Nat.mul_comm 2]
theorem pointT_len {pt : List Int} {p : Int} : (pointT pt p).length = 2 ^ pt.length := by
  unfold pointT
  rw [ptFold_len, List.length_singleton, Nat.one_mul]
theorem ptStep_at {p x : Int} {s : List Int} {y b : Nat} (hy : y < s.length) (hb : b < 2) : Cg p (gi (ptStep p s x) ((y + s.length * b : Nat) : Int)) ((if b = 1 then x else 1 - x) * gi s (y : Nat)) := by
  unfold ptStep
  rw [gi_app, List.length_map]
  rcases (show b = 0 ∨ b = 1 by omega) with rfl | rfl
  · rw [Nat.mul_zero, Nat.add_zero, if_pos hy, gi_mapI hy, if_neg (by decide)]
    exact .mod
  · rw [Nat.mul_one, if_neg (by omega), show y + s.length - s.length = y by omega, gi_mapI hy, if_pos rfl]
    exact .mod
theorem ptFold_at {p : Int} : ∀ (r s : List Int) (y z : Nat), y < s.length → z < 2 ^ r.length → Cg p (gi (r.foldl (ptStep p) s) ((y + s.length * z : Nat) : Int)) (gi s (y : Nat) * wt r z)
  | [], s, y, z, hy, hz => by
    have e : z = 0 := by
      have : (2 : Nat) ^ ([] : List Int).length = 1 := rfl
      omega
    subst e
    show Cg p (gi s _) (gi s _ * 1)
    rw [Nat.mul_zero, Nat.add_zero, Int.mul_one]
    exact .refl
  | x :: r, s, y, z, hy, hz => by
    rw [List.length_cons, Nat.pow_succ] at hz
    have hb : z % 2 < 2 := Nat.mod_lt _ (by decide)
    have h1 := ptFold_at (p := p) r (ptStep p s x) (y + s.length * (z % 2)) (z / 2) (by
      rw [ptStep_len]
      have : s.length * (z % 2) ≤ s.length * 1 := Nat.mul_le_mul_left _ (by omega)
      omega) (by omega)
    have h2 := ptStep_at (p := p) (x := x) hy hb
    have e : y + s.length * (z % 2) + (ptStep p s x).length * (z / 2) = y + s.length * z := by
      rw [ptStep_len, Nat.add_assoc]
      have : s.length * (z % 2) + 2 * s.length * (z / 2) = s.length * z := by
        rw [Nat.mul_comm 2, Nat.mul_assoc, ← Nat.mul_add, Nat.mod_add_div]
      rw [this]
    rw [e] at h1
    refine h1.trans ?_
    refine (h2.mul .refl).trans (.of_eq ?_)
    show _ = gi s y * ((if z % 2 = 1 then x else 1 - x) * wt r (z / 2))
    rw [← Int.mul_assoc, Int.mul_comm (gi s y)]
theorem pointT_at {p : Int} {pt : List Int} {z : Nat} (hz : z < 2 ^ pt.length) : Cg p (gi (pointT pt p) (z : Nat)) (wt pt z) := by
  have h := ptFold_at (p := p) pt [1 % p] 0 z (by simp) hz
  rw [List.length_singleton, Nat.one_mul, Nat.zero_add] at h
  refine h.trans ?_
  have : gi [1 % p] ((0 : Nat) : Int) = 1 % p := rfl
  rw [this]
  refine (Cg.mul .mod .refl).trans (.of_eq (Int.one_mul _))
/-- nearness of two points -/
def nPl : List Int → List Int → Int
  | x :: xs, y :: ys => (x * y + (1 - x) * (1 - y)) * nPl xs ys
  | _, _ => 1
theorem nPl_wt : ∀ xs ys : List Int, xs.length = ys.length → S (2 ^ xs.length) (fun z => wt xs z * wt ys z) = nPl xs ys
  | [], [], _ => rfl
  | [], _ :: _, h => by simp at h
  | _ :: _, [], h => by simp at h
  | x :: xs, y :: ys, h => by
    rw [List.length_cons, Nat.pow_succ, Nat.mul_comm, S_pair]
    show _ = (x * y + (1 - x) * (1 - y)) * nPl xs ys
    rw [← nPl_wt xs ys (by simpa using h), ← S_mul]
    refine S_eq _ fun i _ => ?_
    have e2 : ∀ (a : Int) (r : List Int), wt (a :: r) (2 * i) = (1 - a) * wt r i := fun a r => by
      show (if 2 * i % 2 = 1 then a else 1 - a) * wt r (2 * i / 2) = _
      rw [if_neg (by omega), show 2 * i / 2 = i by omega]
    have e3 : ∀ (a : Int) (r : List Int), wt (a :: r) (2 * i + 1) = a * wt r i := fun a r => by
      show (if (2 * i + 1) % 2 = 1 then a else 1 - a) * wt r ((2 * i + 1) / 2) = _
      rw [if_pos (by omega), show (2 * i + 1) / 2 = i by omega]
    rw [e2, e2, e3, e3]
    grind
theorem nrF_cg {p : Int} {ot : List Int} : ∀ (pt : List Int) (i : Nat) (r : Int), i + pt.length = ot.length → Cg p (nrF p ot i pt r) (r * nPl pt (ot.drop i))
  | [], i, r, h => by
    show Cg p r (r * nPl [] (ot.drop i))
    have : nPl [] (ot.drop i) = 1 := by unfold nPl; rfl
    rw [this, Int.mul_one]
    exact .refl
  | x :: xs, i, r, h => by
    rw [List.length_cons] at h
    have hi : i < ot.length := by omega
    rw [List.drop_eq_getElem_cons hi]
    have e1 : gi ot (i : Nat) = ot[i] := by rw [gi_nat, List.getD_eq_getElem?_getD, List.getElem?_eq_getElem hi]; rfl
    refine (nrF_cg xs (i + 1) _ (by omega)).trans ?_
    show Cg p (r * (x * gi ot (i : Nat) + (1 - x) * (1 - gi ot (i : Nat))) % p * nPl xs (ot.drop (i + 1))) (r * ((x * ot[i] + (1 - x) * (1 - ot[i])) * nPl xs (ot.drop (i + 1))))
    rw [e1, ← Int.mul_assoc]
    exact Cg.mod.mul .refl
theorem nrF_in {p : Int} (hp : 2 ≤ p) {ot : List Int} : ∀ (pt : List Int) (i : Nat) (r : Int), (0 ≤ r ∧ r < p) → 0 ≤ nrF p ot i pt r ∧ nrF p ot i pt r < p
  | [], _, _, h => h
  | x :: xs, i, r, h => nrF_in hp xs (i + 1) _ (mod_in hp)
theorem near_cg {p : Int} {pt ot : List Int} (h : pt.length = ot.length) : Cg p (nrF p ot 0 pt (1 % p)) (nPl pt ot) := by
  refine (nrF_cg pt 0 (1 % p) (by omega)).trans ?_
  rw [List.drop_zero]
  exact (Cg.mod.mul .refl).trans (.of_eq (Int.one_mul _))
end Dl

namespace Dl
open PySem L2
local macro_rules | `(tactic| walk_at "dl") => `(tactic| try simp only [dSeq, dSet, dRaise_one, dRaise_two, dTryAs, dXf, dIsE, List.lookup_cons, List.lookup_nil, beq_self_eq_true, Bool.false_eq_true, if_false, dOp, dUn, dVar, dC, dCB, dCons, dNil, dRet, dRetN, dIf, dB, dAnd, dOr, dNot, dDrop, dNext, dMethL, dSetIx, dAndV, dOrV, dNotV, dBlV, dIfE, dLst, dTup, dLstM, dCall, dChain, dAsg, dgName, dgTup, bindD, asT, dFor, diList, diRng1, diRng2, diEnumerate, diZip, diReversed, dLc, dLcM, dYes, wipeD, dAug, dSl, dSlT, dpN, dpS,
  oI, oI0, oB0, oAdd, oNeg, oEq, oNe, oIx, oIsN, oNotN, isNon, oShl, oApp, oPop, oPopAt, cLen, cInt, cAbs, cSum, cMax2, cMin2, cList, cIsi, tyD, asL, asF, asK, moL_lst, ModC, DivC,
  List.getElem?_cons_zero, List.getElem?_cons_succ, List.set_cons_zero, List.set_cons_succ, List.getElem?_nil, List.length_cons, List.length_nil, List.length_map, Option.map_some, Option.bind_some, Option.isSome_some, if_true, true_and, and_true, MM.push])
local macro_rules | `(tactic| walk_at "dx") => `(tactic| try simp only [eq_self_iff_true, okE_int, okE_bl, okE_non, eqD_int, eqD_bl, kq_NoneType_int, kq_NoneType_bool, kq_NoneType_list, kq_NoneType_tuple, kq_NoneType_str, kq_bool_int, kq_bool_bool, kq_bool_list, kq_bool_tuple, kq_bool_str, kq_int_int, kq_int_bool, kq_int_list, kq_int_tuple, kq_int_str, kq_str_int, kq_str_bool, kq_str_list, kq_str_tuple, kq_str_str, kq_list_int, kq_list_bool, kq_list_list, kq_list_tuple, kq_list_str, kq_tuple_int, kq_tuple_bool, kq_tuple_list, kq_tuple_tuple, kq_tuple_str, oInL, oIsB, oNotB, oEqH, oNeH, oShr, oExt, cMaxL, cMinL, cAny, cAll, cTuple, cListM, dRevL, dFld, dSetF, dAugF, dMeth, dMake, moI_ins, app_len, set_app, List.contains_cons, List.contains_nil, Bool.true_or,  Bool.true_eq_false, decide_true, not_true_eq_false, not_false_eq_true, Bool.not_true, Bool.not_false, decide_eq_true_eq, Bool.not_eq_true', decide_eq_false_iff_not, dSeq, dSet, dRaise_one, dRaise_two, dTryAs, dXf, dIsE, List.lookup_cons, List.lookup_nil, beq_self_eq_true, Bool.false_eq_true, if_false, dOp, dUn, dVar, dC, dCB, dCons, dNil, dRet, dRetN, dIf, dB, dAnd, dOr, dNot, dDrop, dNext, dMethL, dSetIx, dAndV, dOrV, dNotV, dBlV, dIfE, dLst, dTup, dLstM, dCall, dChain, dAsg, dgName, dgTup, bindD, asT, dFor, diList, diRng1, diRng2, diEnumerate, diZip, diReversed, dLc, dLcM, dYes, wipeD, dAug, dSl, dSlT, dpN, dpS,
  oI, oI0, oB0, oAdd, oNeg, oEq, oNe, oIx, oIsN, oNotN, isNon, oShl, oApp, oPop, oPopAt, cLen, cInt, cAbs, cSum, cMax2, cMin2, cList, cIsi, tyD, asL, asF, asK, moL_lst, ModC, DivC,
  List.getElem?_cons_zero, List.getElem?_cons_succ, List.set_cons_zero, List.set_cons_succ, List.getElem?_nil, List.length_cons, List.length_nil, List.length_map, Option.map_some, Option.bind_some, Option.isSome_some, if_true, true_and, and_true, MM.push])
local macro_rules | `(tactic| walk_at "lim") => `(tactic| repeat (first | (refine ⟨by decide, ?_⟩) | (refine ⟨by (try simp only [List.length_map, List.length_dropLast, List.length_append, List.length_cons, List.length_nil, List.length_replicate, List.length_take, List.length_drop, List.length_range]); (show _ ≤ 16777216); omega, ?_⟩)))

set_option hygiene false in
local macro_rules | `(tactic| walk_at "stp") => `(tactic| (refine dSeq_k fun k1 h1 => ?_; walk_at "dx"))
set_option hygiene false in
local macro_rules | `(tactic| walk_at "nxt") => `(tactic| (subst h1; (try dsimp only); refine dSeq_k fun k1 h1 => ?_; walk_at "dx"))
set_option hygiene false in
local macro_rules | `(tactic| walk_at "lst") => `(tactic| (subst h1; (try dsimp only); walk_at "dx"))
set_option hygiene false in
local macro_rules | `(tactic| walk_at "nxt2") => `(tactic| (subst h2; (try dsimp only); refine dSeq_k fun k2 h2 => ?_; walk_at "dx"))
set_option hygiene false in
local macro_rules | `(tactic| walk_at "stp2") => `(tactic| (refine dSeq_k fun k2 h2 => ?_; walk_at "dx"))
set_option hygiene false in
local macro_rules | `(tactic| walk_at "lst2") => `(tactic| (subst h2; (try dsimp only); walk_at "dx"))

/-! ### objects by what their fields hold -/
theorem look_put {f g : String} {v : D} : ∀ {fs : List (String × D)}, (putD f v fs).lookup g = if f = g then some v else fs.lookup g
  | [] => by
    show ([(f, v)] : List (String × D)).lookup g = _
    rw [List.lookup_cons, List.lookup_nil]
    by_cases e : f = g
    · rw [if_pos e, e, beq_self_eq_true]
    · rw [if_neg e, beq_eq_false_iff_ne.mpr (fun z => e z.symm)]
  | (k, x) :: r => by
    unfold putD
    by_cases e : k = f
    · rw [if_pos e, List.lookup_cons]
      by_cases z : f = g
      · rw [if_pos z, e, z, beq_self_eq_true]
      · rw [if_neg z, List.lookup_cons, e, beq_eq_false_iff_ne.mpr (fun w => z w.symm)]
    · rw [if_neg e, List.lookup_cons, List.lookup_cons, look_put]
      by_cases z : g = k
      · subst z
        have z : ¬ f = g := fun w => e w.symm
        simp [z]
      · rw [beq_eq_false_iff_ne.mpr z]
def keysOf (fs : List (String × D)) : List String := fs.map (·.1)
theorem keys_put {f : String} {v : D} : ∀ {fs : List (String × D)}, keysOf (putD f v fs) = if f ∈ keysOf fs then keysOf fs else keysOf fs ++ [f]
  | [] => rfl
  | (k, x) :: r => by
    unfold putD
    by_cases e : k = f
    · rw [if_pos e, if_pos (by rw [e]; exact List.mem_cons_self)]; rfl
    · rw [if_neg e]
      show k :: keysOf (putD f v r) = if f ∈ k :: keysOf r then k :: keysOf r else k :: keysOf r ++ [f]
      rw [keys_put]
      by_cases z : f ∈ keysOf r
      · rw [if_pos z, if_pos (List.mem_cons_of_mem _ z)]
      · rw [if_neg z, if_neg (fun w => by
          rcases List.mem_cons.mp w with w | w
          · exact e w.symm
          · exact z w)]; rfl
theorem nodup_len {α : Type} [DecidableEq α] : ∀ (l A : List α), l.Nodup → (∀ x ∈ l, x ∈ A) → l.length ≤ A.length
  | [], _, _, _ => Nat.zero_le _
  | x :: l, A, h, s => by
    have hx := s x List.mem_cons_self
    have nd := List.nodup_cons.mp h
    have z := nodup_len l (A.erase x) nd.2 (fun y hy => (List.mem_erase_of_ne (fun e => nd.1 (by rw [← e]; exact hy))).mpr (s y (List.mem_cons_of_mem _ hy)))
    rw [List.length_erase_of_mem hx] at z
    have := List.length_pos_of_mem hx
    rw [List.length_cons]; omega
structure KeysOK (A : List String) (fs : List (String × D)) : Prop where
  nd : (keysOf fs).Nodup
  sub : ∀ x ∈ keysOf fs, x ∈ A
  few : A.length ≤ 100
theorem KeysOK.lt {A : List String} {fs : List (String × D)} (h : KeysOK A fs) : fs.length < 1000 := by
  have z := nodup_len _ A h.nd h.sub
  have := h.few
  unfold keysOf at z
  rw [List.length_map] at z
  omega
theorem KeysOK.put {A : List String} {fs : List (String × D)} {f : String} {v : D} (h : KeysOK A fs) (hf : f ∈ A) : KeysOK A (putD f v fs) := by
  refine ⟨?_, fun x hx => ?_, h.few⟩
  · rw [keys_put]
    split
    · exact h.nd
    · rename_i z
      rw [List.nodup_append]
      refine ⟨h.nd, by simp, fun a ha b hb e => z ?_⟩
      rw [List.mem_singleton] at hb
      rw [← hb, ← e]; exact ha
  · rw [keys_put] at hx
    split at hx
    · exact h.sub x hx
    · rcases List.mem_append.mp hx with z | z
      · exact h.sub x z
      · rw [List.mem_singleton.mp z]; exact hf
theorem KeysOK.nil {A : List String} (h : A.length ≤ 100) : KeysOK A [] := ⟨List.nodup_nil, fun _ h => (by cases h), h⟩
/-! ### the honest answerer's steps -/
structure WG where
  a : Int
  b : Int
  c : Int
  x : Int
  y : Int
def wgD (g : WG) : D := .tup [.int g.a, .int g.b, .int g.c, .int g.x, .int g.y]
def wgOK (p : Int) (n : Nat) (g : WG) : Prop := (0 ≤ g.a ∧ g.a < p) ∧ (0 ≤ g.b ∧ g.b < p) ∧ (0 ≤ g.c ∧ g.c < p) ∧ (0 ≤ g.x ∧ g.x < (n : Int)) ∧ (0 ≤ g.y ∧ g.y < (n : Int))
def wgt (p w : Int) : Gate → WG
  | .lin a x b y => ⟨a * w % p, b * w % p, 0, x, y⟩
  | .mul c x y => ⟨0, 0, c * w % p, x, y⟩
def atN (t : List Int) (k : Nat) (z : Int) : Int := gi t (2 * (k : Nat)) + z * (gi t (2 * (k : Nat) + 1) - gi t (2 * (k : Nat)))
end Dl

namespace Dl
open PySem L2
local macro_rules | `(tactic| walk_at "dl") => `(tactic| try simp only [dSeq, dSet, dRaise_one, dRaise_two, dTryAs, dXf, dIsE, List.lookup_cons, List.lookup_nil, beq_self_eq_true, Bool.false_eq_true, if_false, dOp, dUn, dVar, dC, dCB, dCons, dNil, dRet, dRetN, dIf, dB, dAnd, dOr, dNot, dDrop, dNext, dMethL, dSetIx, dAndV, dOrV, dNotV, dBlV, dIfE, dLst, dTup, dLstM, dCall, dChain, dAsg, dgName, dgTup, bindD, asT, dFor, diList, diRng1, diRng2, diEnumerate, diZip, diReversed, dLc, dLcM, dYes, wipeD, dAug, dSl, dSlT, dpN, dpS,
  oI, oI0, oB0, oAdd, oNeg, oEq, oNe, oIx, oIsN, oNotN, isNon, oShl, oApp, oPop, oPopAt, cLen, cInt, cAbs, cSum, cMax2, cMin2, cList, cIsi, tyD, asL, asF, asK, moL_lst, ModC, DivC,
  List.getElem?_cons_zero, List.getElem?_cons_succ, List.set_cons_zero, List.set_cons_succ, List.getElem?_nil, List.length_cons, List.length_nil, List.length_map, Option.map_some, Option.bind_some, Option.isSome_some, if_true, true_and, and_true, MM.push])
local macro_rules | `(tactic| walk_at "dx") => `(tactic| try simp only [eq_self_iff_true, okE_int, okE_bl, okE_non, eqD_int, eqD_bl, kq_NoneType_int, kq_NoneType_bool, kq_NoneType_list, kq_NoneType_tuple, kq_NoneType_str, kq_bool_int, kq_bool_bool, kq_bool_list, kq_bool_tuple, kq_bool_str, kq_int_int, kq_int_bool, kq_int_list, kq_int_tuple, kq_int_str, kq_str_int, kq_str_bool, kq_str_list, kq_str_tuple, kq_str_str, kq_list_int, kq_list_bool, kq_list_list, kq_list_tuple, kq_list_str, kq_tuple_int, kq_tuple_bool, kq_tuple_list, kq_tuple_tuple, kq_tuple_str, oInL, oIsB, oNotB, oEqH, oNeH, oShr, oExt, cMaxL, cMinL, cAny, cAll, cTuple, cListM, dRevL, dFld, dSetF, dAugF, dMeth, dMake, moI_ins, app_len, set_app, List.contains_cons, List.contains_nil, Bool.true_or,  Bool.true_eq_false, decide_true, not_true_eq_false, not_false_eq_true, Bool.not_true, Bool.not_false, decide_eq_true_eq, Bool.not_eq_true', decide_eq_false_iff_not, dSeq, dSet, dRaise_one, dRaise_two, dTryAs, dXf, dIsE, List.lookup_cons, List.lookup_nil, beq_self_eq_true, Bool.false_eq_true, if_false, dOp, dUn, dVar, dC, dCB, dCons, dNil, dRet, dRetN, dIf, dB, dAnd, dOr, dNot, dDrop, dNext, dMethL, dSetIx, dAndV, dOrV, dNotV, dBlV, dIfE, dLst, dTup, dLstM, dCall, dChain, dAsg, dgName, dgTup, bindD, asT, dFor, diList, diRng1, diRng2, diEnumerate, diZip, diReversed, dLc, dLcM, dYes, wipeD, dAug, dSl, dSlT, dpN, dpS,
  oI, oI0, oB0, oAdd, oNeg, oEq, oNe, oIx, oIsN, oNotN, isNon, oShl, oApp, oPop, oPopAt, cLen, cInt, cAbs, cSum, cMax2, cMin2, cList, cIsi, tyD, asL, asF, asK, moL_lst, ModC, DivC,
  List.getElem?_cons_zero, List.getElem?_cons_succ, List.set_cons_zero, List.set_cons_succ, List.getElem?_nil, List.length_cons, List.length_nil, List.length_map, Option.map_some, Option.bind_some, Option.isSome_some, if_true, true_and, and_true, MM.push])
local macro_rules | `(tactic| walk_at "lim") => `(tactic| repeat (first | (refine ⟨by decide, ?_⟩) | (refine ⟨by (try simp only [List.length_map, List.length_dropLast, List.length_append, List.length_cons, List.length_nil, List.length_replicate, List.length_take, List.length_drop, List.length_range]); (show _ ≤ 16777216); omega, ?_⟩)))

set_option hygiene false in
local macro_rules | `(tactic| walk_at "stp") => `(tactic| (refine dSeq_k fun k1 h1 => ?_; walk_at "dx"))
set_option hygiene false in
local macro_rules | `(tactic| walk_at "nxt") => `(tactic| (subst h1; (try dsimp only); refine dSeq_k fun k1 h1 => ?_; walk_at "dx"))
set_option hygiene false in
local macro_rules | `(tactic| walk_at "lst") => `(tactic| (subst h1; (try dsimp only); walk_at "dx"))
set_option hygiene false in
local macro_rules | `(tactic| walk_at "nxt2") => `(tactic| (subst h2; (try dsimp only); refine dSeq_k fun k2 h2 => ?_; walk_at "dx"))
set_option hygiene false in
local macro_rules | `(tactic| walk_at "stp2") => `(tactic| (refine dSeq_k fun k2 h2 => ?_; walk_at "dx"))
set_option hygiene false in
local macro_rules | `(tactic| walk_at "lst2") => `(tactic| (subst h2; (try dsimp only); walk_at "dx"))

/-! ### the honest answerer -/
structure AS where
  c : Cir
  T : List (List Int)
  b : Nat
  steps : Int
  layer : Nat
  round : Nat
  wide : Nat
  gates : List WG
  near : List Int
  cols : List (List Int)
  first : List Int
  second : List Int
  share : Int
  below : List Int
  fac : List Int
  rest : List Int
  left : List Int
def ansKeys : List String := ["circuit", "tables", "bits", "p", "steps", "layer", "round", "wide", "gates", "near", "columns", "first", "second", "share", "below", "factors", "rest", "left"]
class Fl_Answerer (fl : String → List String) : Prop where
  circuit : (fl "circuit").contains "Answerer" = true
  tables : (fl "tables").contains "Answerer" = true
  bits : (fl "bits").contains "Answerer" = true
  p : (fl "p").contains "Answerer" = true
  steps : (fl "steps").contains "Answerer" = true
  layer : (fl "layer").contains "Answerer" = true
  round : (fl "round").contains "Answerer" = true
  wide : (fl "wide").contains "Answerer" = true
  gates : (fl "gates").contains "Answerer" = true
  near : (fl "near").contains "Answerer" = true
  columns : (fl "columns").contains "Answerer" = true
  first : (fl "first").contains "Answerer" = true
  second : (fl "second").contains "Answerer" = true
  share : (fl "share").contains "Answerer" = true
  below : (fl "below").contains "Answerer" = true
  factors : (fl "factors").contains "Answerer" = true
  rest : (fl "rest").contains "Answerer" = true
  left : (fl "left").contains "Answerer" = true
/-- a method of this name is no field -/
def PlF (fs : List (String × D)) : Prop := ∀ x ∈ fs, plD x.2 = true
theorem PlF.put {f : String} {v : D} (hv : plD v = true) : ∀ {fs : List (String × D)}, PlF fs → PlF (putD f v fs)
  | [], _ => fun x hx => by rw [List.mem_singleton.mp hx]; exact hv
  | (k, y) :: r, h => fun x hx => by
    unfold putD at hx
    by_cases e : k = f
    · rw [if_pos e] at hx
      rcases List.mem_cons.mp hx with z | z
      · rw [z]; exact hv
      · exact h x (List.mem_cons_of_mem _ z)
    · rw [if_neg e] at hx
      rcases List.mem_cons.mp hx with z | z
      · rw [z]; exact h (k, y) List.mem_cons_self
      · exact PlF.put hv (fun w hw => h w (List.mem_cons_of_mem _ hw)) x z
theorem PlF.cl {n : Nat} : ∀ {fs : List (String × D)}, PlF fs → clF n fs = true
  | [], _ => rfl
  | (k, y) :: r, h => by
    show (clD n y && clF n r) = true
    rw [clD_pl y (h (k, y) List.mem_cons_self), PlF.cl fun w hw => h w (List.mem_cons_of_mem _ hw)]; rfl
structure A0 (fs : List (String × D)) (s : AS) : Prop where
  k : KeysOK ansKeys fs
  pl : PlF fs
  circuit : fs.lookup "circuit" = some (cD s.c)
  tables : fs.lookup "tables" = some (tabL s.T)
  bits : fs.lookup "bits" = some (.int (s.b : Nat))
  p : fs.lookup "p" = some (.int s.c.p)
  steps : fs.lookup "steps" = some (.int s.steps)
structure A1 (fs : List (String × D)) (s : AS) : Prop extends A0 fs s where
  layer : fs.lookup "layer" = some (.int (s.layer : Nat))
  round : fs.lookup "round" = some (.int (s.round : Nat))
  wide : fs.lookup "wide" = some (.int (s.wide : Nat))
  gates : fs.lookup "gates" = some (.lst (s.gates.map wgD))
  near : fs.lookup "near" = some (.lst (s.near.map D.int))
  columns : fs.lookup "columns" = some (tabL s.cols)
  first : fs.lookup "first" = some (.lst (s.first.map D.int))
  second : fs.lookup "second" = some (.lst (s.second.map D.int))
structure A2 (fs : List (String × D)) (s : AS) : Prop extends A1 fs s where
  share : fs.lookup "share" = some (.int s.share)
  below : fs.lookup "below" = some (.lst (s.below.map D.int))
  factors : fs.lookup "factors" = some (.lst (s.fac.map D.int))
  rest : fs.lookup "rest" = some (.lst (s.rest.map D.int))
  left : fs.lookup "left" = some (.lst (s.left.map D.int))
def ft1 (p : Int) (below : List Int) (gs : List WG) (f : List Int) : List Int := gs.foldl (fun f g => f.set g.x.toNat ((gi f g.x + g.a + g.c * gi below g.y) % p)) f
def rs1 (p : Int) (below : List Int) (gs : List WG) (f : List Int) : List Int := gs.foldl (fun f g => f.set g.x.toNat ((gi f g.x + g.b * gi below g.y) % p)) f
def ft2 (p : Int) (w : List Int) (v : Int) (gs : List WG) (f : List Int) : List Int := gs.foldl (fun f g => f.set g.y.toNat ((gi f g.y + gi w g.x * (g.b + g.c * v)) % p)) f
def rs2 (p : Int) (w : List Int) (v : Int) (gs : List WG) (f : List Int) : List Int := gs.foldl (fun f g => f.set g.y.toNat ((gi f g.y + gi w g.x * g.a % p * v) % p)) f
def zer (n : Nat) : List Int := List.replicate n 0
def turn1 (s : AS) : AS := if s.round = s.b then { s with share := gi s.near 0, below := s.cols.map fun c => gi c 0, fac := ft1 s.c.p (s.cols.map fun c => gi c 0) s.gates (zer s.cols.length), rest := rs1 s.c.p (s.cols.map fun c => gi c 0) s.gates (zer s.cols.length), left := s.cols.map fun c => gi c 0, steps := s.steps + (s.gates.length : Nat) } else s
def turn2 (s : AS) : AS := if s.round = s.b + s.wide then { s with fac := ft2 s.c.p (pointT s.first s.c.p) (gi s.left 0) s.gates (zer s.below.length), rest := rs2 s.c.p (pointT s.first s.c.p) (gi s.left 0) s.gates (zer s.below.length), left := s.below, steps := s.steps + (s.gates.length : Nat) } else s
def turnF (s : AS) : AS := turn2 (turn1 s)
def midF (s : AS) (z : Int) : AS := if s.round < s.b then { s with near := foldS s.c.p s.near z, cols := s.cols.map fun c => foldS s.c.p c z }
  else if s.round < s.b + 2 * s.wide then { s with fac := foldS s.c.p s.fac z, rest := foldS s.c.p s.rest z, left := foldS s.c.p s.left z, first := if s.round < s.b + s.wide then s.first ++ [z] else s.first, second := if s.round < s.b + s.wide then s.second else s.second ++ [z] } else s
def throwF (s : AS) (z : Int) : AS := turnF { midF s z with round := s.round + 1 }
def rowSt (s : AS) : Int := ((s.near.length / 2 : Nat) : Int) * ((s.gates.length : Nat) + (s.cols.length : Nat))
def colSt (s : AS) : Int := ((s.left.length / 2 : Nat) : Int)
def polyS (s : AS) : AS := { s with steps := s.steps + if s.round < s.b then 4 * rowSt s else 3 * colSt s }
/-- a state that the methods can take -/
structure V1 (s : AS) : Prop where
  pm : PM s.c.p
  b3 : s.b ≤ 10
  w3 : s.wide ≤ 10
  g : ∀ g ∈ s.gates, wgOK s.c.p (2 ^ s.wide) g
  gl : s.gates.length ≤ 100000
  near : InP s.c.p s.near
  nl : s.near.length = 2 ^ (s.b - s.round)
  cl : s.cols.length = 2 ^ s.wide
  col : ∀ c ∈ s.cols, InP s.c.p c ∧ c.length = 2 ^ (s.b - s.round)
  f : InP s.c.p s.first
  fl : s.first.length = min (s.round - s.b) s.wide
  sn : InP s.c.p s.second
  sl : s.second.length = min (s.round - s.b - s.wide) s.wide
def leftP (s : AS) : Nat := if s.round ≤ s.b + s.wide then 2 ^ (s.wide - (s.round - s.b)) else 2 ^ (s.wide - (s.round - s.b - s.wide))
def leftL (s : AS) : Nat := if s.round < s.b + s.wide then 2 ^ (s.wide - (s.round - s.b)) else 2 ^ (s.wide - (s.round - s.b - s.wide))
structure V2 (s : AS) (L : Nat) : Prop where
  share : 0 ≤ s.share ∧ s.share < s.c.p
  below : InP s.c.p s.below
  bl : s.below.length = 2 ^ s.wide
  fac : InP s.c.p s.fac
  facl : s.fac.length = L
  rest : InP s.c.p s.rest
  restl : s.rest.length = L
  left : InP s.c.p s.left
  leftl : s.left.length = L
end Dl

namespace Dl
open PySem L2
local macro_rules | `(tactic| walk_at "dl") => `(tactic| try simp only [dSeq, dSet, dRaise_one, dRaise_two, dTryAs, dXf, dIsE, List.lookup_cons, List.lookup_nil, beq_self_eq_true, Bool.false_eq_true, if_false, dOp, dUn, dVar, dC, dCB, dCons, dNil, dRet, dRetN, dIf, dB, dAnd, dOr, dNot, dDrop, dNext, dMethL, dSetIx, dAndV, dOrV, dNotV, dBlV, dIfE, dLst, dTup, dLstM, dCall, dChain, dAsg, dgName, dgTup, bindD, asT, dFor, diList, diRng1, diRng2, diEnumerate, diZip, diReversed, dLc, dLcM, dYes, wipeD, dAug, dSl, dSlT, dpN, dpS,
  oI, oI0, oB0, oAdd, oNeg, oEq, oNe, oIx, oIsN, oNotN, isNon, oShl, oApp, oPop, oPopAt, cLen, cInt, cAbs, cSum, cMax2, cMin2, cList, cIsi, tyD, asL, asF, asK, moL_lst, ModC, DivC,
  List.getElem?_cons_zero, List.getElem?_cons_succ, List.set_cons_zero, List.set_cons_succ, List.getElem?_nil, List.length_cons, List.length_nil, List.length_map, Option.map_some, Option.bind_some, Option.isSome_some, if_true, true_and, and_true, MM.push])
local macro_rules | `(tactic| walk_at "dx") => `(tactic| try simp only [eq_self_iff_true, okE_int, okE_bl, okE_non, eqD_int, eqD_bl, kq_NoneType_int, kq_NoneType_bool, kq_NoneType_list, kq_NoneType_tuple, kq_NoneType_str, kq_bool_int, kq_bool_bool, kq_bool_list, kq_bool_tuple, kq_bool_str, kq_int_int, kq_int_bool, kq_int_list, kq_int_tuple, kq_int_str, kq_str_int, kq_str_bool, kq_str_list, kq_str_tuple, kq_str_str, kq_list_int, kq_list_bool, kq_list_list, kq_list_tuple, kq_list_str, kq_tuple_int, kq_tuple_bool, kq_tuple_list, kq_tuple_tuple, kq_tuple_str, oInL, oIsB, oNotB, oEqH, oNeH, oShr, oExt, cMaxL, cMinL, cAny, cAll, cTuple, cListM, dRevL, dFld, dSetF, dAugF, dMeth, dMake, moI_ins, app_len, set_app, List.contains_cons, List.contains_nil, Bool.true_or,  Bool.true_eq_false, decide_true, not_true_eq_false, not_false_eq_true, Bool.not_true, Bool.not_false, decide_eq_true_eq, Bool.not_eq_true', decide_eq_false_iff_not, dSeq, dSet, dRaise_one, dRaise_two, dTryAs, dXf, dIsE, List.lookup_cons, List.lookup_nil, beq_self_eq_true, Bool.false_eq_true, if_false, dOp, dUn, dVar, dC, dCB, dCons, dNil, dRet, dRetN, dIf, dB, dAnd, dOr, dNot, dDrop, dNext, dMethL, dSetIx, dAndV, dOrV, dNotV, dBlV, dIfE, dLst, dTup, dLstM, dCall, dChain, dAsg, dgName, dgTup, bindD, asT, dFor, diList, diRng1, diRng2, diEnumerate, diZip, diReversed, dLc, dLcM, dYes, wipeD, dAug, dSl, dSlT, dpN, dpS,
  oI, oI0, oB0, oAdd, oNeg, oEq, oNe, oIx, oIsN, oNotN, isNon, oShl, oApp, oPop, oPopAt, cLen, cInt, cAbs, cSum, cMax2, cMin2, cList, cIsi, tyD, asL, asF, asK, moL_lst, ModC, DivC,
  List.getElem?_cons_zero, List.getElem?_cons_succ, List.set_cons_zero, List.set_cons_succ, List.getElem?_nil, List.length_cons, List.length_nil, List.length_map, Option.map_some, Option.bind_some, Option.isSome_some, if_true, true_and, and_true, MM.push])
local macro_rules | `(tactic| walk_at "lim") => `(tactic| repeat (first | (refine ⟨by decide, ?_⟩) | (refine ⟨by (try simp only [List.length_map, List.length_dropLast, List.length_append, List.length_cons, List.length_nil, List.length_replicate, List.length_take, List.length_drop, List.length_range]); (show _ ≤ 16777216); omega, ?_⟩)))

set_option hygiene false in
local macro_rules | `(tactic| walk_at "stp") => `(tactic| (refine dSeq_k fun k1 h1 => ?_; walk_at "dx"))
set_option hygiene false in
local macro_rules | `(tactic| walk_at "nxt") => `(tactic| (subst h1; (try dsimp only); refine dSeq_k fun k1 h1 => ?_; walk_at "dx"))
set_option hygiene false in
local macro_rules | `(tactic| walk_at "lst") => `(tactic| (subst h1; (try dsimp only); walk_at "dx"))
set_option hygiene false in
local macro_rules | `(tactic| walk_at "nxt2") => `(tactic| (subst h2; (try dsimp only); refine dSeq_k fun k2 h2 => ?_; walk_at "dx"))
set_option hygiene false in
local macro_rules | `(tactic| walk_at "stp2") => `(tactic| (refine dSeq_k fun k2 h2 => ?_; walk_at "dx"))
set_option hygiene false in
local macro_rules | `(tactic| walk_at "lst2") => `(tactic| (subst h2; (try dsimp only); walk_at "dx"))
set_option hygiene false in
local macro_rules | `(tactic| walk_at "an") => `(tactic| (walk_at "dx"; (try simp only [dgTupG, dgsCons, dgsNil, dgFld, asT, dVar, List.length_cons, List.length_nil, List.getElem?_cons_zero, ob, obL, hk, moI_ins, Fl_Answerer.circuit, Fl_Answerer.tables, Fl_Answerer.bits, Fl_Answerer.p, Fl_Answerer.steps, Fl_Answerer.layer, Fl_Answerer.round, Fl_Answerer.wide, Fl_Answerer.gates, Fl_Answerer.near, Fl_Answerer.columns, Fl_Answerer.first, Fl_Answerer.second, Fl_Answerer.share, Fl_Answerer.below, Fl_Answerer.factors, Fl_Answerer.rest, Fl_Answerer.left,
  List.getElem?_set_self, List.set_set, List.length_set, look_put, String.reduceEq, reduceIte, exists_eq_left', Option.some.injEq, true_and, and_true])))

theorem obApp {M : List MO} {k : Nat} {o : MO} (h : M[k]? = some o) : ∀ L, (M ++ L)[k]? = some o := fun L => by
  have hk : k < M.length := by
    rcases Nat.lt_or_ge k M.length with z | z
    · exact z
    · rw [List.getElem?_eq_none z] at h; cases h
  rw [List.getElem?_append_left hk]; exact h
theorem getLt {M : List MO} {k : Nat} {o : MO} (h : M[k]? = some o) : k < M.length := by
  rcases Nat.lt_or_ge k M.length with z | z
  · exact z
  · rw [List.getElem?_eq_none z] at h; cases h
theorem st1 {M : List MO} {a b c : MO} : (M ++ [a, b]).set M.length c = M ++ [c, b] := set_app2
theorem st2 {M : List MO} {a b c : MO} : (M ++ [a, b]).set (M.length + 1) c = M ++ [a, c] := by rw [List.set_append_right _ _ (by omega)]; simp
end Dl

namespace Dl
open PySem L2
local macro_rules | `(tactic| walk_at "dl") => `(tactic| try simp only [dSeq, dSet, dRaise_one, dRaise_two, dTryAs, dXf, dIsE, List.lookup_cons, List.lookup_nil, beq_self_eq_true, Bool.false_eq_true, if_false, dOp, dUn, dVar, dC, dCB, dCons, dNil, dRet, dRetN, dIf, dB, dAnd, dOr, dNot, dDrop, dNext, dMethL, dSetIx, dAndV, dOrV, dNotV, dBlV, dIfE, dLst, dTup, dLstM, dCall, dChain, dAsg, dgName, dgTup, bindD, asT, dFor, diList, diRng1, diRng2, diEnumerate, diZip, diReversed, dLc, dLcM, dYes, wipeD, dAug, dSl, dSlT, dpN, dpS,
  oI, oI0, oB0, oAdd, oNeg, oEq, oNe, oIx, oIsN, oNotN, isNon, oShl, oApp, oPop, oPopAt, cLen, cInt, cAbs, cSum, cMax2, cMin2, cList, cIsi, tyD, asL, asF, asK, moL_lst, ModC, DivC,
  List.getElem?_cons_zero, List.getElem?_cons_succ, List.set_cons_zero, List.set_cons_succ, List.getElem?_nil, List.length_cons, List.length_nil, List.length_map, Option.map_some, Option.bind_some, Option.isSome_some, if_true, true_and, and_true, MM.push])
local macro_rules | `(tactic| walk_at "dx") => `(tactic| try simp only [eq_self_iff_true, okE_int, okE_bl, okE_non, eqD_int, eqD_bl, kq_NoneType_int, kq_NoneType_bool, kq_NoneType_list, kq_NoneType_tuple, kq_NoneType_str, kq_bool_int, kq_bool_bool, kq_bool_list, kq_bool_tuple, kq_bool_str, kq_int_int, kq_int_bool, kq_int_list, kq_int_tuple, kq_int_str, kq_str_int, kq_str_bool, kq_str_list, kq_str_tuple, kq_str_str, kq_list_int, kq_list_bool, kq_list_list, kq_list_tuple, kq_list_str, kq_tuple_int, kq_tuple_bool, kq_tuple_list, kq_tuple_tuple, kq_tuple_str, oInL, oIsB, oNotB, oEqH, oNeH, oShr, oExt, cMaxL, cMinL, cAny, cAll, cTuple, cListM, dRevL, dFld, dSetF, dAugF, dMeth, dMake, moI_ins, app_len, set_app, List.contains_cons, List.contains_nil, Bool.true_or,  Bool.true_eq_false, decide_true, not_true_eq_false, not_false_eq_true, Bool.not_true, Bool.not_false, decide_eq_true_eq, Bool.not_eq_true', decide_eq_false_iff_not, dSeq, dSet, dRaise_one, dRaise_two, dTryAs, dXf, dIsE, List.lookup_cons, List.lookup_nil, beq_self_eq_true, Bool.false_eq_true, if_false, dOp, dUn, dVar, dC, dCB, dCons, dNil, dRet, dRetN, dIf, dB, dAnd, dOr, dNot, dDrop, dNext, dMethL, dSetIx, dAndV, dOrV, dNotV, dBlV, dIfE, dLst, dTup, dLstM, dCall, dChain, dAsg, dgName, dgTup, bindD, asT, dFor, diList, diRng1, diRng2, diEnumerate, diZip, diReversed, dLc, dLcM, dYes, wipeD, dAug, dSl, dSlT, dpN, dpS,
  oI, oI0, oB0, oAdd, oNeg, oEq, oNe, oIx, oIsN, oNotN, isNon, oShl, oApp, oPop, oPopAt, cLen, cInt, cAbs, cSum, cMax2, cMin2, cList, cIsi, tyD, asL, asF, asK, moL_lst, ModC, DivC,
  List.getElem?_cons_zero, List.getElem?_cons_succ, List.set_cons_zero, List.set_cons_succ, List.getElem?_nil, List.length_cons, List.length_nil, List.length_map, Option.map_some, Option.bind_some, Option.isSome_some, if_true, true_and, and_true, MM.push])
local macro_rules | `(tactic| walk_at "lim") => `(tactic| repeat (first | (refine ⟨by decide, ?_⟩) | (refine ⟨by (try simp only [List.length_map, List.length_dropLast, List.length_append, List.length_cons, List.length_nil, List.length_replicate, List.length_take, List.length_drop, List.length_range]); (show _ ≤ 16777216); omega, ?_⟩)))

set_option hygiene false in
local macro_rules | `(tactic| walk_at "stp") => `(tactic| (refine dSeq_k fun k1 h1 => ?_; walk_at "dx"))
set_option hygiene false in
local macro_rules | `(tactic| walk_at "nxt") => `(tactic| (subst h1; (try dsimp only); refine dSeq_k fun k1 h1 => ?_; walk_at "dx"))
set_option hygiene false in
local macro_rules | `(tactic| walk_at "lst") => `(tactic| (subst h1; (try dsimp only); walk_at "dx"))
set_option hygiene false in
local macro_rules | `(tactic| walk_at "nxt2") => `(tactic| (subst h2; (try dsimp only); refine dSeq_k fun k2 h2 => ?_; walk_at "dx"))
set_option hygiene false in
local macro_rules | `(tactic| walk_at "stp2") => `(tactic| (refine dSeq_k fun k2 h2 => ?_; walk_at "dx"))
set_option hygiene false in
local macro_rules | `(tactic| walk_at "lst2") => `(tactic| (subst h2; (try dsimp only); walk_at "dx"))
set_option hygiene false in
local macro_rules | `(tactic| walk_at "an") => `(tactic| (walk_at "dx"; (try simp only [dgTupG, dgsCons, dgsNil, dgFld, asT, dVar, List.length_cons, List.length_nil, List.getElem?_cons_zero, ob, obL, hk, moI_ins, Fl_Answerer.circuit, Fl_Answerer.tables, Fl_Answerer.bits, Fl_Answerer.p, Fl_Answerer.steps, Fl_Answerer.layer, Fl_Answerer.round, Fl_Answerer.wide, Fl_Answerer.gates, Fl_Answerer.near, Fl_Answerer.columns, Fl_Answerer.first, Fl_Answerer.second, Fl_Answerer.share, Fl_Answerer.below, Fl_Answerer.factors, Fl_Answerer.rest, Fl_Answerer.left,
  List.getElem?_set_self, List.set_set, List.length_set, look_put, String.reduceEq, reduceIte, exists_eq_left', Option.some.injEq, true_and, and_true])))

theorem two_half {n : Nat} (h : 0 < n) : 2 ^ n / 2 = 2 ^ (n - 1) := by
  obtain ⟨e, rfl⟩ : ∃ e, n = e + 1 := ⟨n - 1, by omega⟩
  rw [Nat.pow_succ, Nat.mul_div_cancel _ (by decide)]; rfl
end Dl

namespace Dl
open PySem L2
local macro_rules | `(tactic| walk_at "dl") => `(tactic| try simp only [dSeq, dSet, dRaise_one, dRaise_two, dTryAs, dXf, dIsE, List.lookup_cons, List.lookup_nil, beq_self_eq_true, Bool.false_eq_true, if_false, dOp, dUn, dVar, dC, dCB, dCons, dNil, dRet, dRetN, dIf, dB, dAnd, dOr, dNot, dDrop, dNext, dMethL, dSetIx, dAndV, dOrV, dNotV, dBlV, dIfE, dLst, dTup, dLstM, dCall, dChain, dAsg, dgName, dgTup, bindD, asT, dFor, diList, diRng1, diRng2, diEnumerate, diZip, diReversed, dLc, dLcM, dYes, wipeD, dAug, dSl, dSlT, dpN, dpS,
  oI, oI0, oB0, oAdd, oNeg, oEq, oNe, oIx, oIsN, oNotN, isNon, oShl, oApp, oPop, oPopAt, cLen, cInt, cAbs, cSum, cMax2, cMin2, cList, cIsi, tyD, asL, asF, asK, moL_lst, ModC, DivC,
  List.getElem?_cons_zero, List.getElem?_cons_succ, List.set_cons_zero, List.set_cons_succ, List.getElem?_nil, List.length_cons, List.length_nil, List.length_map, Option.map_some, Option.bind_some, Option.isSome_some, if_true, true_and, and_true, MM.push])
local macro_rules | `(tactic| walk_at "dx") => `(tactic| try simp only [eq_self_iff_true, okE_int, okE_bl, okE_non, eqD_int, eqD_bl, kq_NoneType_int, kq_NoneType_bool, kq_NoneType_list, kq_NoneType_tuple, kq_NoneType_str, kq_bool_int, kq_bool_bool, kq_bool_list, kq_bool_tuple, kq_bool_str, kq_int_int, kq_int_bool, kq_int_list, kq_int_tuple, kq_int_str, kq_str_int, kq_str_bool, kq_str_list, kq_str_tuple, kq_str_str, kq_list_int, kq_list_bool, kq_list_list, kq_list_tuple, kq_list_str, kq_tuple_int, kq_tuple_bool, kq_tuple_list, kq_tuple_tuple, kq_tuple_str, oInL, oIsB, oNotB, oEqH, oNeH, oShr, oExt, cMaxL, cMinL, cAny, cAll, cTuple, cListM, dRevL, dFld, dSetF, dAugF, dMeth, dMake, moI_ins, app_len, set_app, List.contains_cons, List.contains_nil, Bool.true_or,  Bool.true_eq_false, decide_true, not_true_eq_false, not_false_eq_true, Bool.not_true, Bool.not_false, decide_eq_true_eq, Bool.not_eq_true', decide_eq_false_iff_not, dSeq, dSet, dRaise_one, dRaise_two, dTryAs, dXf, dIsE, List.lookup_cons, List.lookup_nil, beq_self_eq_true, Bool.false_eq_true, if_false, dOp, dUn, dVar, dC, dCB, dCons, dNil, dRet, dRetN, dIf, dB, dAnd, dOr, dNot, dDrop, dNext, dMethL, dSetIx, dAndV, dOrV, dNotV, dBlV, dIfE, dLst, dTup, dLstM, dCall, dChain, dAsg, dgName, dgTup, bindD, asT, dFor, diList, diRng1, diRng2, diEnumerate, diZip, diReversed, dLc, dLcM, dYes, wipeD, dAug, dSl, dSlT, dpN, dpS,
  oI, oI0, oB0, oAdd, oNeg, oEq, oNe, oIx, oIsN, oNotN, isNon, oShl, oApp, oPop, oPopAt, cLen, cInt, cAbs, cSum, cMax2, cMin2, cList, cIsi, tyD, asL, asF, asK, moL_lst, ModC, DivC,
  List.getElem?_cons_zero, List.getElem?_cons_succ, List.set_cons_zero, List.set_cons_succ, List.getElem?_nil, List.length_cons, List.length_nil, List.length_map, Option.map_some, Option.bind_some, Option.isSome_some, if_true, true_and, and_true, MM.push])
local macro_rules | `(tactic| walk_at "lim") => `(tactic| repeat (first | (refine ⟨by decide, ?_⟩) | (refine ⟨by (try simp only [List.length_map, List.length_dropLast, List.length_append, List.length_cons, List.length_nil, List.length_replicate, List.length_take, List.length_drop, List.length_range]); (show _ ≤ 16777216); omega, ?_⟩)))

set_option hygiene false in
local macro_rules | `(tactic| walk_at "stp") => `(tactic| (refine dSeq_k fun k1 h1 => ?_; walk_at "dx"))
set_option hygiene false in
local macro_rules | `(tactic| walk_at "nxt") => `(tactic| (subst h1; (try dsimp only); refine dSeq_k fun k1 h1 => ?_; walk_at "dx"))
set_option hygiene false in
local macro_rules | `(tactic| walk_at "lst") => `(tactic| (subst h1; (try dsimp only); walk_at "dx"))
set_option hygiene false in
local macro_rules | `(tactic| walk_at "nxt2") => `(tactic| (subst h2; (try dsimp only); refine dSeq_k fun k2 h2 => ?_; walk_at "dx"))
set_option hygiene false in
local macro_rules | `(tactic| walk_at "stp2") => `(tactic| (refine dSeq_k fun k2 h2 => ?_; walk_at "dx"))
set_option hygiene false in
local macro_rules | `(tactic| walk_at "lst2") => `(tactic| (subst h2; (try dsimp only); walk_at "dx"))
set_option hygiene false in
local macro_rules | `(tactic| walk_at "an") => `(tactic| (walk_at "dx"; (try simp only [dgTupG, dgsCons, dgsNil, dgFld, asT, dVar, List.length_cons, List.length_nil, List.getElem?_cons_zero, ob, obL, hk, moI_ins, Fl_Answerer.circuit, Fl_Answerer.tables, Fl_Answerer.bits, Fl_Answerer.p, Fl_Answerer.steps, Fl_Answerer.layer, Fl_Answerer.round, Fl_Answerer.wide, Fl_Answerer.gates, Fl_Answerer.near, Fl_Answerer.columns, Fl_Answerer.first, Fl_Answerer.second, Fl_Answerer.share, Fl_Answerer.below, Fl_Answerer.factors, Fl_Answerer.rest, Fl_Answerer.left,
  List.getElem?_set_self, List.set_set, List.length_set, look_put, String.reduceEq, reduceIte, exists_eq_left', Option.some.injEq, true_and, and_true])))

theorem st_lookup {st : Int} {fs : List (String × D)} {f : String} (h : f ≠ "steps") : (putD "steps" (.int st) fs).lookup f = fs.lookup f := by rw [look_put, if_neg (fun z => h z.symm)]
/-- other steps change no other field -/
theorem A0.st {fs : List (String × D)} {s : AS} (h : A0 fs s) (st : Int) : A0 (putD "steps" (.int st) fs) { s with steps := st } where
  k := h.k.put (by decide)
  pl := h.pl.put rfl
  circuit := (st_lookup (by decide)).trans h.circuit
  tables := (st_lookup (by decide)).trans h.tables
  bits := (st_lookup (by decide)).trans h.bits
  p := (st_lookup (by decide)).trans h.p
  steps := by rw [look_put, if_pos rfl]
theorem A1.st {fs : List (String × D)} {s : AS} (h : A1 fs s) (st : Int) : A1 (putD "steps" (.int st) fs) { s with steps := st } where
  toA0 := h.toA0.st st
  layer := (st_lookup (by decide)).trans h.layer
  round := (st_lookup (by decide)).trans h.round
  wide := (st_lookup (by decide)).trans h.wide
  gates := (st_lookup (by decide)).trans h.gates
  near := (st_lookup (by decide)).trans h.near
  columns := (st_lookup (by decide)).trans h.columns
  first := (st_lookup (by decide)).trans h.first
  second := (st_lookup (by decide)).trans h.second
theorem A2.st {fs : List (String × D)} {s : AS} (h : A2 fs s) (st : Int) : A2 (putD "steps" (.int st) fs) { s with steps := st } where
  toA1 := h.toA1.st st
  share := (st_lookup (by decide)).trans h.share
  below := (st_lookup (by decide)).trans h.below
  factors := (st_lookup (by decide)).trans h.factors
  rest := (st_lookup (by decide)).trans h.rest
  left := (st_lookup (by decide)).trans h.left
theorem V1.st {s : AS} (h : V1 s) (st : Int) : V1 { s with steps := st } := ⟨h.pm, h.b3, h.w3, h.g, h.gl, h.near, h.nl, h.cl, h.col, h.f, h.fl, h.sn, h.sl⟩
theorem V2.st {s : AS} {L : Nat} (h : V2 s L) (st : Int) : V2 { s with steps := st } L := ⟨h.share, h.below, h.bl, h.fac, h.facl, h.rest, h.restl, h.left, h.leftl⟩
end Dl

namespace Dl
open PySem L2
local macro_rules | `(tactic| walk_at "dl") => `(tactic| try simp only [dSeq, dSet, dRaise_one, dRaise_two, dTryAs, dXf, dIsE, List.lookup_cons, List.lookup_nil, beq_self_eq_true, Bool.false_eq_true, if_false, dOp, dUn, dVar, dC, dCB, dCons, dNil, dRet, dRetN, dIf, dB, dAnd, dOr, dNot, dDrop, dNext, dMethL, dSetIx, dAndV, dOrV, dNotV, dBlV, dIfE, dLst, dTup, dLstM, dCall, dChain, dAsg, dgName, dgTup, bindD, asT, dFor, diList, diRng1, diRng2, diEnumerate, diZip, diReversed, dLc, dLcM, dYes, wipeD, dAug, dSl, dSlT, dpN, dpS,
  oI, oI0, oB0, oAdd, oNeg, oEq, oNe, oIx, oIsN, oNotN, isNon, oShl, oApp, oPop, oPopAt, cLen, cInt, cAbs, cSum, cMax2, cMin2, cList, cIsi, tyD, asL, asF, asK, moL_lst, ModC, DivC,
  List.getElem?_cons_zero, List.getElem?_cons_succ, List.set_cons_zero, List.set_cons_succ, List.getElem?_nil, List.length_cons, List.length_nil, List.length_map, Option.map_some, Option.bind_some, Option.isSome_some, if_true, true_and, and_true, MM.push])
local macro_rules | `(tactic| walk_at "dx") => `(tactic| try simp only [eq_self_iff_true, okE_int, okE_bl, okE_non, eqD_int, eqD_bl, kq_NoneType_int, kq_NoneType_bool, kq_NoneType_list, kq_NoneType_tuple, kq_NoneType_str, kq_bool_int, kq_bool_bool, kq_bool_list, kq_bool_tuple, kq_bool_str, kq_int_int, kq_int_bool, kq_int_list, kq_int_tuple, kq_int_str, kq_str_int, kq_str_bool, kq_str_list, kq_str_tuple, kq_str_str, kq_list_int, kq_list_bool, kq_list_list, kq_list_tuple, kq_list_str, kq_tuple_int, kq_tuple_bool, kq_tuple_list, kq_tuple_tuple, kq_tuple_str, oInL, oIsB, oNotB, oEqH, oNeH, oShr, oExt, cMaxL, cMinL, cAny, cAll, cTuple, cListM, dRevL, dFld, dSetF, dAugF, dMeth, dMake, moI_ins, app_len, set_app, List.contains_cons, List.contains_nil, Bool.true_or,  Bool.true_eq_false, decide_true, not_true_eq_false, not_false_eq_true, Bool.not_true, Bool.not_false, decide_eq_true_eq, Bool.not_eq_true', decide_eq_false_iff_not, dSeq, dSet, dRaise_one, dRaise_two, dTryAs, dXf, dIsE, List.lookup_cons, List.lookup_nil, beq_self_eq_true, Bool.false_eq_true, if_false, dOp, dUn, dVar, dC, dCB, dCons, dNil, dRet, dRetN, dIf, dB, dAnd, dOr, dNot, dDrop, dNext, dMethL, dSetIx, dAndV, dOrV, dNotV, dBlV, dIfE, dLst, dTup, dLstM, dCall, dChain, dAsg, dgName, dgTup, bindD, asT, dFor, diList, diRng1, diRng2, diEnumerate, diZip, diReversed, dLc, dLcM, dYes, wipeD, dAug, dSl, dSlT, dpN, dpS,
  oI, oI0, oB0, oAdd, oNeg, oEq, oNe, oIx, oIsN, oNotN, isNon, oShl, oApp, oPop, oPopAt, cLen, cInt, cAbs, cSum, cMax2, cMin2, cList, cIsi, tyD, asL, asF, asK, moL_lst, ModC, DivC,
  List.getElem?_cons_zero, List.getElem?_cons_succ, List.set_cons_zero, List.set_cons_succ, List.getElem?_nil, List.length_cons, List.length_nil, List.length_map, Option.map_some, Option.bind_some, Option.isSome_some, if_true, true_and, and_true, MM.push])
local macro_rules | `(tactic| walk_at "lim") => `(tactic| repeat (first | (refine ⟨by decide, ?_⟩) | (refine ⟨by (try simp only [List.length_map, List.length_dropLast, List.length_append, List.length_cons, List.length_nil, List.length_replicate, List.length_take, List.length_drop, List.length_range]); (show _ ≤ 16777216); omega, ?_⟩)))

set_option hygiene false in
local macro_rules | `(tactic| walk_at "stp") => `(tactic| (refine dSeq_k fun k1 h1 => ?_; walk_at "dx"))
set_option hygiene false in
local macro_rules | `(tactic| walk_at "nxt") => `(tactic| (subst h1; (try dsimp only); refine dSeq_k fun k1 h1 => ?_; walk_at "dx"))
set_option hygiene false in
local macro_rules | `(tactic| walk_at "lst") => `(tactic| (subst h1; (try dsimp only); walk_at "dx"))
set_option hygiene false in
local macro_rules | `(tactic| walk_at "nxt2") => `(tactic| (subst h2; (try dsimp only); refine dSeq_k fun k2 h2 => ?_; walk_at "dx"))
set_option hygiene false in
local macro_rules | `(tactic| walk_at "stp2") => `(tactic| (refine dSeq_k fun k2 h2 => ?_; walk_at "dx"))
set_option hygiene false in
local macro_rules | `(tactic| walk_at "lst2") => `(tactic| (subst h2; (try dsimp only); walk_at "dx"))
set_option hygiene false in
local macro_rules | `(tactic| walk_at "an") => `(tactic| (walk_at "dx"; (try simp only [dgTupG, dgsCons, dgsNil, dgFld, asT, dVar, List.length_cons, List.length_nil, List.getElem?_cons_zero, ob, obL, hk, moI_ins, Fl_Answerer.circuit, Fl_Answerer.tables, Fl_Answerer.bits, Fl_Answerer.p, Fl_Answerer.steps, Fl_Answerer.layer, Fl_Answerer.round, Fl_Answerer.wide, Fl_Answerer.gates, Fl_Answerer.near, Fl_Answerer.columns, Fl_Answerer.first, Fl_Answerer.second, Fl_Answerer.share, Fl_Answerer.below, Fl_Answerer.factors, Fl_Answerer.rest, Fl_Answerer.left,
  List.getElem?_set_self, List.set_set, List.length_set, look_put, String.reduceEq, reduceIte, exists_eq_left', Option.some.injEq, true_and, and_true])))

theorem foldset_ok {α : Type} {p : Int} (hp : 2 ≤ p) (i : α → Nat) (v : List Int → α → Int) : ∀ (gs : List α) (f : List Int), InP p f → (gs.foldl (fun f g => f.set (i g) (v f g % p)) f).length = f.length ∧ InP p (gs.foldl (fun f g => f.set (i g) (v f g % p)) f)
  | [], f, h => ⟨rfl, h⟩
  | g :: gs, f, h => by
    have z := foldset_ok hp i v gs (f.set (i g) (v f g % p)) (fun x hx => by
      rcases List.mem_or_eq_of_mem_set hx with z | z
      · exact h x z
      · rw [z]; exact mod_in hp)
    rw [List.length_set] at z
    exact z
theorem zer_in {p : Int} (hp : 2 ≤ p) {n : Nat} : InP p (zer n) := fun x hx => by
  rw [List.eq_of_mem_replicate hx]; omega
theorem zer_len {n : Nat} : (zer n).length = n := List.length_replicate
theorem turn1_r (s : AS) : (turn1 s).round = s.round ∧ (turn1 s).b = s.b ∧ (turn1 s).wide = s.wide ∧ (turn1 s).c = s.c := by
  unfold turn1; split <;> exact ⟨rfl, rfl, rfl, rfl⟩
theorem turn2_r (s : AS) : (turn2 s).round = s.round ∧ (turn2 s).b = s.b ∧ (turn2 s).wide = s.wide ∧ (turn2 s).c = s.c := by
  unfold turn2; split <;> exact ⟨rfl, rfl, rfl, rfl⟩
theorem turnF_r (s : AS) : (turnF s).round = s.round ∧ (turnF s).b = s.b ∧ (turnF s).wide = s.wide ∧ (turnF s).c = s.c := by
  have h1 := turn1_r s
  have h2 := turn2_r (turn1 s)
  exact ⟨h2.1.trans h1.1, h2.2.1.trans h1.2.1, h2.2.2.1.trans h1.2.2.1, h2.2.2.2.trans h1.2.2.2⟩
theorem turn1_v1 {s : AS} (h : V1 s) : V1 (turn1 s) := by
  unfold turn1; split
  · exact ⟨h.pm, h.b3, h.w3, h.g, h.gl, h.near, h.nl, h.cl, h.col, h.f, h.fl, h.sn, h.sl⟩
  · exact h
theorem turn2_v1 {s : AS} (h : V1 s) : V1 (turn2 s) := by
  unfold turn2; split
  · exact ⟨h.pm, h.b3, h.w3, h.g, h.gl, h.near, h.nl, h.cl, h.col, h.f, h.fl, h.sn, h.sl⟩
  · exact h
theorem turn1_v2 {s : AS} (h : V1 s) (e : s.round = s.b) : V2 (turn1 s) (2 ^ s.wide) := by
  have hp1 := h.pm.1
  have nl := h.nl
  rw [e, Nat.sub_self, Nat.pow_zero] at nl
  have bin : InP s.c.p (s.cols.map fun c => gi c 0) := fun x hx => by
    obtain ⟨c, hc, rfl⟩ := List.mem_map.mp hx
    have z := h.col c hc
    rw [e, Nat.sub_self, Nat.pow_zero] at z
    exact z.1.gN (i := 0) (by omega)
  have bl : (s.cols.map fun c => gi c 0).length = 2 ^ s.wide := by rw [List.length_map, h.cl]
  have k1 := foldset_ok hp1 (fun g : WG => g.x.toNat) (fun f g => gi f g.x + g.a + g.c * gi (s.cols.map fun c => gi c 0) g.y) s.gates (zer s.cols.length) (zer_in hp1)
  have k2 := foldset_ok hp1 (fun g : WG => g.x.toNat) (fun f g => gi f g.x + g.b * gi (s.cols.map fun c => gi c 0) g.y) s.gates (zer s.cols.length) (zer_in hp1)
  rw [zer_len, h.cl] at k1 k2
  unfold turn1
  rw [if_pos e]
  exact ⟨h.near.gN (i := 0) (by omega), bin, bl, by show InP _ (ft1 _ _ _ (zer s.cols.length)); rw [h.cl]; exact k1.2, by show (ft1 _ _ _ _).length = _; rw [h.cl]; exact k1.1, by show InP _ (rs1 _ _ _ (zer s.cols.length)); rw [h.cl]; exact k2.2, by show (rs1 _ _ _ _).length = _; rw [h.cl]; exact k2.1, bin, bl⟩
theorem A1.same {fs : List (String × D)} {s s' : AS} (h : A1 fs s) (e : (s'.c, s'.T, s'.b, s'.steps, s'.layer, s'.round, s'.wide, s'.gates, s'.near, s'.cols, s'.first, s'.second) = (s.c, s.T, s.b, s.steps, s.layer, s.round, s.wide, s.gates, s.near, s.cols, s.first, s.second)) : A1 fs s' := by
  simp only [Prod.mk.injEq] at e
  obtain ⟨e1, e2, e3, e4, e5, e6, e7, e8, e9, e10, e11, e12⟩ := e
  exact ⟨⟨h.k, h.pl, by rw [e1]; exact h.circuit, by rw [e2]; exact h.tables, by rw [e3]; exact h.bits, by rw [e1]; exact h.p, by rw [e4]; exact h.steps⟩, by rw [e5]; exact h.layer, by rw [e6]; exact h.round, by rw [e7]; exact h.wide, by rw [e8]; exact h.gates, by rw [e9]; exact h.near, by rw [e10]; exact h.columns, by rw [e11]; exact h.first, by rw [e12]; exact h.second⟩
theorem V1.same {s s' : AS} (h : V1 s) (e : (s'.c, s'.b, s'.round, s'.wide, s'.gates, s'.near, s'.cols, s'.first, s'.second) = (s.c, s.b, s.round, s.wide, s.gates, s.near, s.cols, s.first, s.second)) : V1 s' := by
  simp only [Prod.mk.injEq] at e
  obtain ⟨e1, e3, e6, e7, e8, e9, e10, e11, e12⟩ := e
  exact ⟨by rw [e1]; exact h.pm, by rw [e3]; exact h.b3, by rw [e7]; exact h.w3, by rw [e8, e1, e7]; exact h.g, by rw [e8]; exact h.gl, by rw [e1, e9]; exact h.near, by rw [e9, e3, e6]; exact h.nl, by rw [e10, e7]; exact h.cl, by rw [e10, e1, e3, e6]; exact h.col, by rw [e1, e11]; exact h.f, by rw [e11, e6, e3, e7]; exact h.fl, by rw [e1, e12]; exact h.sn, by rw [e12, e6, e3, e7]; exact h.sl⟩
end Dl

namespace Dl
open PySem L2
local macro_rules | `(tactic| walk_at "dl") => `(tactic| try simp only [dSeq, dSet, dRaise_one, dRaise_two, dTryAs, dXf, dIsE, List.lookup_cons, List.lookup_nil, beq_self_eq_true, Bool.false_eq_true, if_false, dOp, dUn, dVar, dC, dCB, dCons, dNil, dRet, dRetN, dIf, dB, dAnd, dOr, dNot, dDrop, dNext, dMethL, dSetIx, dAndV, dOrV, dNotV, dBlV, dIfE, dLst, dTup, dLstM, dCall, dChain, dAsg, dgName, dgTup, bindD, asT, dFor, diList, diRng1, diRng2, diEnumerate, diZip, diReversed, dLc, dLcM, dYes, wipeD, dAug, dSl, dSlT, dpN, dpS,
  oI, oI0, oB0, oAdd, oNeg, oEq, oNe, oIx, oIsN, oNotN, isNon, oShl, oApp, oPop, oPopAt, cLen, cInt, cAbs, cSum, cMax2, cMin2, cList, cIsi, tyD, asL, asF, asK, moL_lst, ModC, DivC,
  List.getElem?_cons_zero, List.getElem?_cons_succ, List.set_cons_zero, List.set_cons_succ, List.getElem?_nil, List.length_cons, List.length_nil, List.length_map, Option.map_some, Option.bind_some, Option.isSome_some, if_true, true_and, and_true, MM.push])
local macro_rules | `(tactic| walk_at "dx") => `(tactic| try simp only [eq_self_iff_true, okE_int, okE_bl, okE_non, eqD_int, eqD_bl, kq_NoneType_int, kq_NoneType_bool, kq_NoneType_list, kq_NoneType_tuple, kq_NoneType_str, kq_bool_int, kq_bool_bool, kq_bool_list, kq_bool_tuple, kq_bool_str, kq_int_int, kq_int_bool, kq_int_list, kq_int_tuple, kq_int_str, kq_str_int, kq_str_bool, kq_str_list, kq_str_tuple, kq_str_str, kq_list_int, kq_list_bool, kq_list_list, kq_list_tuple, kq_list_str, kq_tuple_int, kq_tuple_bool, kq_tuple_list, kq_tuple_tuple, kq_tuple_str, oInL, oIsB, oNotB, oEqH, oNeH, oShr, oExt, cMaxL, cMinL, cAny, cAll, cTuple, cListM, dRevL, dFld, dSetF, dAugF, dMeth, dMake, moI_ins, app_len, set_app, List.contains_cons, List.contains_nil, Bool.true_or,  Bool.true_eq_false, decide_true, not_true_eq_false, not_false_eq_true, Bool.not_true, Bool.not_false, decide_eq_true_eq, Bool.not_eq_true', decide_eq_false_iff_not, dSeq, dSet, dRaise_one, dRaise_two, dTryAs, dXf, dIsE, List.lookup_cons, List.lookup_nil, beq_self_eq_true, Bool.false_eq_true, if_false, dOp, dUn, dVar, dC, dCB, dCons, dNil, dRet, dRetN, dIf, dB, dAnd, dOr, dNot, dDrop, dNext, dMethL, dSetIx, dAndV, dOrV, dNotV, dBlV, dIfE, dLst, dTup, dLstM, dCall, dChain, dAsg, dgName, dgTup, bindD, asT, dFor, diList, diRng1, diRng2, diEnumerate, diZip, diReversed, dLc, dLcM, dYes, wipeD, dAug, dSl, dSlT, dpN, dpS,
  oI, oI0, oB0, oAdd, oNeg, oEq, oNe, oIx, oIsN, oNotN, isNon, oShl, oApp, oPop, oPopAt, cLen, cInt, cAbs, cSum, cMax2, cMin2, cList, cIsi, tyD, asL, asF, asK, moL_lst, ModC, DivC,
  List.getElem?_cons_zero, List.getElem?_cons_succ, List.set_cons_zero, List.set_cons_succ, List.getElem?_nil, List.length_cons, List.length_nil, List.length_map, Option.map_some, Option.bind_some, Option.isSome_some, if_true, true_and, and_true, MM.push])
local macro_rules | `(tactic| walk_at "lim") => `(tactic| repeat (first | (refine ⟨by decide, ?_⟩) | (refine ⟨by (try simp only [List.length_map, List.length_dropLast, List.length_append, List.length_cons, List.length_nil, List.length_replicate, List.length_take, List.length_drop, List.length_range]); (show _ ≤ 16777216); omega, ?_⟩)))

set_option hygiene false in
local macro_rules | `(tactic| walk_at "stp") => `(tactic| (refine dSeq_k fun k1 h1 => ?_; walk_at "dx"))
set_option hygiene false in
local macro_rules | `(tactic| walk_at "nxt") => `(tactic| (subst h1; (try dsimp only); refine dSeq_k fun k1 h1 => ?_; walk_at "dx"))
set_option hygiene false in
local macro_rules | `(tactic| walk_at "lst") => `(tactic| (subst h1; (try dsimp only); walk_at "dx"))
set_option hygiene false in
local macro_rules | `(tactic| walk_at "nxt2") => `(tactic| (subst h2; (try dsimp only); refine dSeq_k fun k2 h2 => ?_; walk_at "dx"))
set_option hygiene false in
local macro_rules | `(tactic| walk_at "stp2") => `(tactic| (refine dSeq_k fun k2 h2 => ?_; walk_at "dx"))
set_option hygiene false in
local macro_rules | `(tactic| walk_at "lst2") => `(tactic| (subst h2; (try dsimp only); walk_at "dx"))
set_option hygiene false in
local macro_rules | `(tactic| walk_at "an") => `(tactic| (walk_at "dx"; (try simp only [dgTupG, dgsCons, dgsNil, dgFld, asT, dVar, List.length_cons, List.length_nil, List.getElem?_cons_zero, ob, obL, hk, moI_ins, Fl_Answerer.circuit, Fl_Answerer.tables, Fl_Answerer.bits, Fl_Answerer.p, Fl_Answerer.steps, Fl_Answerer.layer, Fl_Answerer.round, Fl_Answerer.wide, Fl_Answerer.gates, Fl_Answerer.near, Fl_Answerer.columns, Fl_Answerer.first, Fl_Answerer.second, Fl_Answerer.share, Fl_Answerer.below, Fl_Answerer.factors, Fl_Answerer.rest, Fl_Answerer.left,
  List.getElem?_set_self, List.set_set, List.length_set, look_put, String.reduceEq, reduceIte, exists_eq_left', Option.some.injEq, true_and, and_true])))

/-- the state that stands at k, as the methods need it -/
structure AnsOK (fs : List (String × D)) (s : AS) : Prop where
  a1 : A1 fs s
  v1 : V1 s
  two : s.b ≤ s.round → A2 fs s ∧ V2 s (leftL s)
theorem plD_tab (t : List (List Int)) : plD (.lst (t.map intL)) = true := plDs_of fun d hd => by
  obtain ⟨x, _, rfl⟩ := List.mem_map.mp hd
  exact plD_ints x
end Dl

namespace Dl
open PySem L2
local macro_rules | `(tactic| walk_at "dl") => `(tactic| try simp only [dSeq, dSet, dRaise_one, dRaise_two, dTryAs, dXf, dIsE, List.lookup_cons, List.lookup_nil, beq_self_eq_true, Bool.false_eq_true, if_false, dOp, dUn, dVar, dC, dCB, dCons, dNil, dRet, dRetN, dIf, dB, dAnd, dOr, dNot, dDrop, dNext, dMethL, dSetIx, dAndV, dOrV, dNotV, dBlV, dIfE, dLst, dTup, dLstM, dCall, dChain, dAsg, dgName, dgTup, bindD, asT, dFor, diList, diRng1, diRng2, diEnumerate, diZip, diReversed, dLc, dLcM, dYes, wipeD, dAug, dSl, dSlT, dpN, dpS,
  oI, oI0, oB0, oAdd, oNeg, oEq, oNe, oIx, oIsN, oNotN, isNon, oShl, oApp, oPop, oPopAt, cLen, cInt, cAbs, cSum, cMax2, cMin2, cList, cIsi, tyD, asL, asF, asK, moL_lst, ModC, DivC,
  List.getElem?_cons_zero, List.getElem?_cons_succ, List.set_cons_zero, List.set_cons_succ, List.getElem?_nil, List.length_cons, List.length_nil, List.length_map, Option.map_some, Option.bind_some, Option.isSome_some, if_true, true_and, and_true, MM.push])
local macro_rules | `(tactic| walk_at "dx") => `(tactic| try simp only [eq_self_iff_true, okE_int, okE_bl, okE_non, eqD_int, eqD_bl, kq_NoneType_int, kq_NoneType_bool, kq_NoneType_list, kq_NoneType_tuple, kq_NoneType_str, kq_bool_int, kq_bool_bool, kq_bool_list, kq_bool_tuple, kq_bool_str, kq_int_int, kq_int_bool, kq_int_list, kq_int_tuple, kq_int_str, kq_str_int, kq_str_bool, kq_str_list, kq_str_tuple, kq_str_str, kq_list_int, kq_list_bool, kq_list_list, kq_list_tuple, kq_list_str, kq_tuple_int, kq_tuple_bool, kq_tuple_list, kq_tuple_tuple, kq_tuple_str, oInL, oIsB, oNotB, oEqH, oNeH, oShr, oExt, cMaxL, cMinL, cAny, cAll, cTuple, cListM, dRevL, dFld, dSetF, dAugF, dMeth, dMake, moI_ins, app_len, set_app, List.contains_cons, List.contains_nil, Bool.true_or,  Bool.true_eq_false, decide_true, not_true_eq_false, not_false_eq_true, Bool.not_true, Bool.not_false, decide_eq_true_eq, Bool.not_eq_true', decide_eq_false_iff_not, dSeq, dSet, dRaise_one, dRaise_two, dTryAs, dXf, dIsE, List.lookup_cons, List.lookup_nil, beq_self_eq_true, Bool.false_eq_true, if_false, dOp, dUn, dVar, dC, dCB, dCons, dNil, dRet, dRetN, dIf, dB, dAnd, dOr, dNot, dDrop, dNext, dMethL, dSetIx, dAndV, dOrV, dNotV, dBlV, dIfE, dLst, dTup, dLstM, dCall, dChain, dAsg, dgName, dgTup, bindD, asT, dFor, diList, diRng1, diRng2, diEnumerate, diZip, diReversed, dLc, dLcM, dYes, wipeD, dAug, dSl, dSlT, dpN, dpS,
  oI, oI0, oB0, oAdd, oNeg, oEq, oNe, oIx, oIsN, oNotN, isNon, oShl, oApp, oPop, oPopAt, cLen, cInt, cAbs, cSum, cMax2, cMin2, cList, cIsi, tyD, asL, asF, asK, moL_lst, ModC, DivC,
  List.getElem?_cons_zero, List.getElem?_cons_succ, List.set_cons_zero, List.set_cons_succ, List.getElem?_nil, List.length_cons, List.length_nil, List.length_map, Option.map_some, Option.bind_some, Option.isSome_some, if_true, true_and, and_true, MM.push])
local macro_rules | `(tactic| walk_at "lim") => `(tactic| repeat (first | (refine ⟨by decide, ?_⟩) | (refine ⟨by (try simp only [List.length_map, List.length_dropLast, List.length_append, List.length_cons, List.length_nil, List.length_replicate, List.length_take, List.length_drop, List.length_range]); (show _ ≤ 16777216); omega, ?_⟩)))

set_option hygiene false in
local macro_rules | `(tactic| walk_at "stp") => `(tactic| (refine dSeq_k fun k1 h1 => ?_; walk_at "dx"))
set_option hygiene false in
local macro_rules | `(tactic| walk_at "nxt") => `(tactic| (subst h1; (try dsimp only); refine dSeq_k fun k1 h1 => ?_; walk_at "dx"))
set_option hygiene false in
local macro_rules | `(tactic| walk_at "lst") => `(tactic| (subst h1; (try dsimp only); walk_at "dx"))
set_option hygiene false in
local macro_rules | `(tactic| walk_at "nxt2") => `(tactic| (subst h2; (try dsimp only); refine dSeq_k fun k2 h2 => ?_; walk_at "dx"))
set_option hygiene false in
local macro_rules | `(tactic| walk_at "stp2") => `(tactic| (refine dSeq_k fun k2 h2 => ?_; walk_at "dx"))
set_option hygiene false in
local macro_rules | `(tactic| walk_at "lst2") => `(tactic| (subst h2; (try dsimp only); walk_at "dx"))
set_option hygiene false in
local macro_rules | `(tactic| walk_at "an") => `(tactic| (walk_at "dx"; (try simp only [dgTupG, dgsCons, dgsNil, dgFld, asT, dVar, List.length_cons, List.length_nil, List.getElem?_cons_zero, ob, obL, hk, moI_ins, Fl_Answerer.circuit, Fl_Answerer.tables, Fl_Answerer.bits, Fl_Answerer.p, Fl_Answerer.steps, Fl_Answerer.layer, Fl_Answerer.round, Fl_Answerer.wide, Fl_Answerer.gates, Fl_Answerer.near, Fl_Answerer.columns, Fl_Answerer.first, Fl_Answerer.second, Fl_Answerer.share, Fl_Answerer.below, Fl_Answerer.factors, Fl_Answerer.rest, Fl_Answerer.left,
  List.getElem?_set_self, List.set_set, List.length_set, look_put, String.reduceEq, reduceIte, exists_eq_left', Option.some.injEq, true_and, and_true])))

/-- what the answerer is made of -/
structure B0 (s : AS) (most wide : Nat) : Prop where
  c : CirOK s.c most wide
  m4 : most ≤ 4
  w3 : wide ≤ 3
  b3 : s.b ≤ 3
  tl : s.T.length = s.c.ls.length + 1
  t : ∀ i ≤ s.c.ls.length, InP s.c.p (s.T.getD i []) ∧ (s.T.getD i []).length = colsN s.c i * 2 ^ s.b
theorem B0.cols {s : AS} {most wide : Nat} (h : B0 s most wide) {i : Nat} (hi : i ≤ s.c.ls.length) : 1 ≤ colsN s.c i ∧ colsN s.c i ≤ 8 := by
  have hwl := h.c.wl
  have z := pow_le8 (h.c.w0 _ (gi_mem (show i < s.c.ws.length by omega))) h.w3
  have := colsN_eq (c := s.c) (i := i)
  unfold colsC at this
  omega
end Dl

namespace Dl
open PySem L2
local macro_rules | `(tactic| walk_at "dl") => `(tactic| try simp only [dSeq, dSet, dRaise_one, dRaise_two, dTryAs, dXf, dIsE, List.lookup_cons, List.lookup_nil, beq_self_eq_true, Bool.false_eq_true, if_false, dOp, dUn, dVar, dC, dCB, dCons, dNil, dRet, dRetN, dIf, dB, dAnd, dOr, dNot, dDrop, dNext, dMethL, dSetIx, dAndV, dOrV, dNotV, dBlV, dIfE, dLst, dTup, dLstM, dCall, dChain, dAsg, dgName, dgTup, bindD, asT, dFor, diList, diRng1, diRng2, diEnumerate, diZip, diReversed, dLc, dLcM, dYes, wipeD, dAug, dSl, dSlT, dpN, dpS,
  oI, oI0, oB0, oAdd, oNeg, oEq, oNe, oIx, oIsN, oNotN, isNon, oShl, oApp, oPop, oPopAt, cLen, cInt, cAbs, cSum, cMax2, cMin2, cList, cIsi, tyD, asL, asF, asK, moL_lst, ModC, DivC,
  List.getElem?_cons_zero, List.getElem?_cons_succ, List.set_cons_zero, List.set_cons_succ, List.getElem?_nil, List.length_cons, List.length_nil, List.length_map, Option.map_some, Option.bind_some, Option.isSome_some, if_true, true_and, and_true, MM.push])
local macro_rules | `(tactic| walk_at "dx") => `(tactic| try simp only [eq_self_iff_true, okE_int, okE_bl, okE_non, eqD_int, eqD_bl, kq_NoneType_int, kq_NoneType_bool, kq_NoneType_list, kq_NoneType_tuple, kq_NoneType_str, kq_bool_int, kq_bool_bool, kq_bool_list, kq_bool_tuple, kq_bool_str, kq_int_int, kq_int_bool, kq_int_list, kq_int_tuple, kq_int_str, kq_str_int, kq_str_bool, kq_str_list, kq_str_tuple, kq_str_str, kq_list_int, kq_list_bool, kq_list_list, kq_list_tuple, kq_list_str, kq_tuple_int, kq_tuple_bool, kq_tuple_list, kq_tuple_tuple, kq_tuple_str, oInL, oIsB, oNotB, oEqH, oNeH, oShr, oExt, cMaxL, cMinL, cAny, cAll, cTuple, cListM, dRevL, dFld, dSetF, dAugF, dMeth, dMake, moI_ins, app_len, set_app, List.contains_cons, List.contains_nil, Bool.true_or,  Bool.true_eq_false, decide_true, not_true_eq_false, not_false_eq_true, Bool.not_true, Bool.not_false, decide_eq_true_eq, Bool.not_eq_true', decide_eq_false_iff_not, dSeq, dSet, dRaise_one, dRaise_two, dTryAs, dXf, dIsE, List.lookup_cons, List.lookup_nil, beq_self_eq_true, Bool.false_eq_true, if_false, dOp, dUn, dVar, dC, dCB, dCons, dNil, dRet, dRetN, dIf, dB, dAnd, dOr, dNot, dDrop, dNext, dMethL, dSetIx, dAndV, dOrV, dNotV, dBlV, dIfE, dLst, dTup, dLstM, dCall, dChain, dAsg, dgName, dgTup, bindD, asT, dFor, diList, diRng1, diRng2, diEnumerate, diZip, diReversed, dLc, dLcM, dYes, wipeD, dAug, dSl, dSlT, dpN, dpS,
  oI, oI0, oB0, oAdd, oNeg, oEq, oNe, oIx, oIsN, oNotN, isNon, oShl, oApp, oPop, oPopAt, cLen, cInt, cAbs, cSum, cMax2, cMin2, cList, cIsi, tyD, asL, asF, asK, moL_lst, ModC, DivC,
  List.getElem?_cons_zero, List.getElem?_cons_succ, List.set_cons_zero, List.set_cons_succ, List.getElem?_nil, List.length_cons, List.length_nil, List.length_map, Option.map_some, Option.bind_some, Option.isSome_some, if_true, true_and, and_true, MM.push])
local macro_rules | `(tactic| walk_at "lim") => `(tactic| repeat (first | (refine ⟨by decide, ?_⟩) | (refine ⟨by (try simp only [List.length_map, List.length_dropLast, List.length_append, List.length_cons, List.length_nil, List.length_replicate, List.length_take, List.length_drop, List.length_range]); (show _ ≤ 16777216); omega, ?_⟩)))

set_option hygiene false in
local macro_rules | `(tactic| walk_at "stp") => `(tactic| (refine dSeq_k fun k1 h1 => ?_; walk_at "dx"))
set_option hygiene false in
local macro_rules | `(tactic| walk_at "nxt") => `(tactic| (subst h1; (try dsimp only); refine dSeq_k fun k1 h1 => ?_; walk_at "dx"))
set_option hygiene false in
local macro_rules | `(tactic| walk_at "lst") => `(tactic| (subst h1; (try dsimp only); walk_at "dx"))
set_option hygiene false in
local macro_rules | `(tactic| walk_at "nxt2") => `(tactic| (subst h2; (try dsimp only); refine dSeq_k fun k2 h2 => ?_; walk_at "dx"))
set_option hygiene false in
local macro_rules | `(tactic| walk_at "stp2") => `(tactic| (refine dSeq_k fun k2 h2 => ?_; walk_at "dx"))
set_option hygiene false in
local macro_rules | `(tactic| walk_at "lst2") => `(tactic| (subst h2; (try dsimp only); walk_at "dx"))
set_option hygiene false in
local macro_rules | `(tactic| walk_at "an") => `(tactic| (walk_at "dx"; (try simp only [dgTupG, dgsCons, dgsNil, dgFld, asT, dVar, List.length_cons, List.length_nil, List.getElem?_cons_zero, ob, obL, hk, moI_ins, Fl_Answerer.circuit, Fl_Answerer.tables, Fl_Answerer.bits, Fl_Answerer.p, Fl_Answerer.steps, Fl_Answerer.layer, Fl_Answerer.round, Fl_Answerer.wide, Fl_Answerer.gates, Fl_Answerer.near, Fl_Answerer.columns, Fl_Answerer.first, Fl_Answerer.second, Fl_Answerer.share, Fl_Answerer.below, Fl_Answerer.factors, Fl_Answerer.rest, Fl_Answerer.left,
  List.getElem?_set_self, List.set_set, List.length_set, look_put, String.reduceEq, reduceIte, exists_eq_left', Option.some.injEq, true_and, and_true])))

/-- the answerer, new -/
def s0 (c : Cir) (R : List (List Int)) (b : Nat) : AS := ⟨c, tables c R, b, 0, 0, 0, 0, [], [], [], [], [], 0, [], [], [], []⟩
end Dl

namespace Dl
open PySem L2
local macro_rules | `(tactic| walk_at "dl") => `(tactic| try simp only [dSeq, dSet, dRaise_one, dRaise_two, dTryAs, dXf, dIsE, List.lookup_cons, List.lookup_nil, beq_self_eq_true, Bool.false_eq_true, if_false, dOp, dUn, dVar, dC, dCB, dCons, dNil, dRet, dRetN, dIf, dB, dAnd, dOr, dNot, dDrop, dNext, dMethL, dSetIx, dAndV, dOrV, dNotV, dBlV, dIfE, dLst, dTup, dLstM, dCall, dChain, dAsg, dgName, dgTup, bindD, asT, dFor, diList, diRng1, diRng2, diEnumerate, diZip, diReversed, dLc, dLcM, dYes, wipeD, dAug, dSl, dSlT, dpN, dpS,
  oI, oI0, oB0, oAdd, oNeg, oEq, oNe, oIx, oIsN, oNotN, isNon, oShl, oApp, oPop, oPopAt, cLen, cInt, cAbs, cSum, cMax2, cMin2, cList, cIsi, tyD, asL, asF, asK, moL_lst, ModC, DivC,
  List.getElem?_cons_zero, List.getElem?_cons_succ, List.set_cons_zero, List.set_cons_succ, List.getElem?_nil, List.length_cons, List.length_nil, List.length_map, Option.map_some, Option.bind_some, Option.isSome_some, if_true, true_and, and_true, MM.push])
local macro_rules | `(tactic| walk_at "dx") => `(tactic| try simp only [eq_self_iff_true, okE_int, okE_bl, okE_non, eqD_int, eqD_bl, kq_NoneType_int, kq_NoneType_bool, kq_NoneType_list, kq_NoneType_tuple, kq_NoneType_str, kq_bool_int, kq_bool_bool, kq_bool_list, kq_bool_tuple, kq_bool_str, kq_int_int, kq_int_bool, kq_int_list, kq_int_tuple, kq_int_str, kq_str_int, kq_str_bool, kq_str_list, kq_str_tuple, kq_str_str, kq_list_int, kq_list_bool, kq_list_list, kq_list_tuple, kq_list_str, kq_tuple_int, kq_tuple_bool, kq_tuple_list, kq_tuple_tuple, kq_tuple_str, oInL, oIsB, oNotB, oEqH, oNeH, oShr, oExt, cMaxL, cMinL, cAny, cAll, cTuple, cListM, dRevL, dFld, dSetF, dAugF, dMeth, dMake, moI_ins, app_len, set_app, List.contains_cons, List.contains_nil, Bool.true_or,  Bool.true_eq_false, decide_true, not_true_eq_false, not_false_eq_true, Bool.not_true, Bool.not_false, decide_eq_true_eq, Bool.not_eq_true', decide_eq_false_iff_not, dSeq, dSet, dRaise_one, dRaise_two, dTryAs, dXf, dIsE, List.lookup_cons, List.lookup_nil, beq_self_eq_true, Bool.false_eq_true, if_false, dOp, dUn, dVar, dC, dCB, dCons, dNil, dRet, dRetN, dIf, dB, dAnd, dOr, dNot, dDrop, dNext, dMethL, dSetIx, dAndV, dOrV, dNotV, dBlV, dIfE, dLst, dTup, dLstM, dCall, dChain, dAsg, dgName, dgTup, bindD, asT, dFor, diList, diRng1, diRng2, diEnumerate, diZip, diReversed, dLc, dLcM, dYes, wipeD, dAug, dSl, dSlT, dpN, dpS,
  oI, oI0, oB0, oAdd, oNeg, oEq, oNe, oIx, oIsN, oNotN, isNon, oShl, oApp, oPop, oPopAt, cLen, cInt, cAbs, cSum, cMax2, cMin2, cList, cIsi, tyD, asL, asF, asK, moL_lst, ModC, DivC,
  List.getElem?_cons_zero, List.getElem?_cons_succ, List.set_cons_zero, List.set_cons_succ, List.getElem?_nil, List.length_cons, List.length_nil, List.length_map, Option.map_some, Option.bind_some, Option.isSome_some, if_true, true_and, and_true, MM.push])
local macro_rules | `(tactic| walk_at "lim") => `(tactic| repeat (first | (refine ⟨by decide, ?_⟩) | (refine ⟨by (try simp only [List.length_map, List.length_dropLast, List.length_append, List.length_cons, List.length_nil, List.length_replicate, List.length_take, List.length_drop, List.length_range]); (show _ ≤ 16777216); omega, ?_⟩)))

set_option hygiene false in
local macro_rules | `(tactic| walk_at "stp") => `(tactic| (refine dSeq_k fun k1 h1 => ?_; walk_at "dx"))
set_option hygiene false in
local macro_rules | `(tactic| walk_at "nxt") => `(tactic| (subst h1; (try dsimp only); refine dSeq_k fun k1 h1 => ?_; walk_at "dx"))
set_option hygiene false in
local macro_rules | `(tactic| walk_at "lst") => `(tactic| (subst h1; (try dsimp only); walk_at "dx"))
set_option hygiene false in
local macro_rules | `(tactic| walk_at "nxt2") => `(tactic| (subst h2; (try dsimp only); refine dSeq_k fun k2 h2 => ?_; walk_at "dx"))
set_option hygiene false in
local macro_rules | `(tactic| walk_at "stp2") => `(tactic| (refine dSeq_k fun k2 h2 => ?_; walk_at "dx"))
set_option hygiene false in
local macro_rules | `(tactic| walk_at "lst2") => `(tactic| (subst h2; (try dsimp only); walk_at "dx"))
set_option hygiene false in
local macro_rules | `(tactic| walk_at "an") => `(tactic| (walk_at "dx"; (try simp only [dgTupG, dgsCons, dgsNil, dgFld, asT, dVar, List.length_cons, List.length_nil, List.getElem?_cons_zero, ob, obL, hk, moI_ins, Fl_Answerer.circuit, Fl_Answerer.tables, Fl_Answerer.bits, Fl_Answerer.p, Fl_Answerer.steps, Fl_Answerer.layer, Fl_Answerer.round, Fl_Answerer.wide, Fl_Answerer.gates, Fl_Answerer.near, Fl_Answerer.columns, Fl_Answerer.first, Fl_Answerer.second, Fl_Answerer.share, Fl_Answerer.below, Fl_Answerer.factors, Fl_Answerer.rest, Fl_Answerer.left,
  List.getElem?_set_self, List.set_set, List.length_set, look_put, String.reduceEq, reduceIte, exists_eq_left', Option.some.injEq, true_and, and_true])))

/-! ### what stays as it is -/
structure Fix (s s' : AS) : Prop where
  c : s'.c = s.c
  T : s'.T = s.T
  b : s'.b = s.b
theorem Fix.trans {a b c : AS} (h : Fix a b) (g : Fix b c) : Fix a c := ⟨g.c.trans h.c, g.T.trans h.T, g.b.trans h.b⟩
theorem mid_r (s : AS) (z : Int) : (midF s z).round = s.round ∧ (midF s z).wide = s.wide ∧ Fix s (midF s z) := by
  unfold midF
  split
  · exact ⟨rfl, rfl, rfl, rfl, rfl⟩
  · split
    · exact ⟨rfl, rfl, rfl, rfl, rfl⟩
    · exact ⟨rfl, rfl, rfl, rfl, rfl⟩
theorem AnsOK.a0 {fs : List (String × D)} {s : AS} (h : AnsOK fs s) : A0 fs s := h.a1.toA0
theorem AnsOK.poly {fs : List (String × D)} {s : AS} (h : AnsOK fs s) : AnsOK (putD "steps" (.int (polyS s).steps) fs) (polyS s) := ⟨h.a1.st _, h.v1.st _, fun e => by
  obtain ⟨x, y⟩ := h.two e
  exact ⟨x.st _, y.st _⟩⟩
/-! ### a layer's answers, all answers -/
/-- the widths as numbers -/
def wN (c : Cir) (i : Nat) : Nat := (gi c.ws (i : Nat)).toNat
theorem wN_eq {c : Cir} {most wide : Nat} (hc : CirOK c most wide) {i : Nat} (h : i ≤ c.ls.length) : ((wN c i : Nat) : Int) = gi c.ws (i : Nat) := by
  have hwl := hc.wl
  have := hc.w0 _ (gi_mem (show i < c.ws.length by omega))
  unfold wN
  omega
end Dl

namespace Dl
open PySem L2
local macro_rules | `(tactic| walk_at "dl") => `(tactic| try simp only [dSeq, dSet, dRaise_one, dRaise_two, dTryAs, dXf, dIsE, List.lookup_cons, List.lookup_nil, beq_self_eq_true, Bool.false_eq_true, if_false, dOp, dUn, dVar, dC, dCB, dCons, dNil, dRet, dRetN, dIf, dB, dAnd, dOr, dNot, dDrop, dNext, dMethL, dSetIx, dAndV, dOrV, dNotV, dBlV, dIfE, dLst, dTup, dLstM, dCall, dChain, dAsg, dgName, dgTup, bindD, asT, dFor, diList, diRng1, diRng2, diEnumerate, diZip, diReversed, dLc, dLcM, dYes, wipeD, dAug, dSl, dSlT, dpN, dpS,
  oI, oI0, oB0, oAdd, oNeg, oEq, oNe, oIx, oIsN, oNotN, isNon, oShl, oApp, oPop, oPopAt, cLen, cInt, cAbs, cSum, cMax2, cMin2, cList, cIsi, tyD, asL, asF, asK, moL_lst, ModC, DivC,
  List.getElem?_cons_zero, List.getElem?_cons_succ, List.set_cons_zero, List.set_cons_succ, List.getElem?_nil, List.length_cons, List.length_nil, List.length_map, Option.map_some, Option.bind_some, Option.isSome_some, if_true, true_and, and_true, MM.push])
local macro_rules | `(tactic| walk_at "dx") => `(tactic| try simp only [eq_self_iff_true, okE_int, okE_bl, okE_non, eqD_int, eqD_bl, kq_NoneType_int, kq_NoneType_bool, kq_NoneType_list, kq_NoneType_tuple, kq_NoneType_str, kq_bool_int, kq_bool_bool, kq_bool_list, kq_bool_tuple, kq_bool_str, kq_int_int, kq_int_bool, kq_int_list, kq_int_tuple, kq_int_str, kq_str_int, kq_str_bool, kq_str_list, kq_str_tuple, kq_str_str, kq_list_int, kq_list_bool, kq_list_list, kq_list_tuple, kq_list_str, kq_tuple_int, kq_tuple_bool, kq_tuple_list, kq_tuple_tuple, kq_tuple_str, oInL, oIsB, oNotB, oEqH, oNeH, oShr, oExt, cMaxL, cMinL, cAny, cAll, cTuple, cListM, dRevL, dFld, dSetF, dAugF, dMeth, dMake, moI_ins, app_len, set_app, List.contains_cons, List.contains_nil, Bool.true_or,  Bool.true_eq_false, decide_true, not_true_eq_false, not_false_eq_true, Bool.not_true, Bool.not_false, decide_eq_true_eq, Bool.not_eq_true', decide_eq_false_iff_not, dSeq, dSet, dRaise_one, dRaise_two, dTryAs, dXf, dIsE, List.lookup_cons, List.lookup_nil, beq_self_eq_true, Bool.false_eq_true, if_false, dOp, dUn, dVar, dC, dCB, dCons, dNil, dRet, dRetN, dIf, dB, dAnd, dOr, dNot, dDrop, dNext, dMethL, dSetIx, dAndV, dOrV, dNotV, dBlV, dIfE, dLst, dTup, dLstM, dCall, dChain, dAsg, dgName, dgTup, bindD, asT, dFor, diList, diRng1, diRng2, diEnumerate, diZip, diReversed, dLc, dLcM, dYes, wipeD, dAug, dSl, dSlT, dpN, dpS,
  oI, oI0, oB0, oAdd, oNeg, oEq, oNe, oIx, oIsN, oNotN, isNon, oShl, oApp, oPop, oPopAt, cLen, cInt, cAbs, cSum, cMax2, cMin2, cList, cIsi, tyD, asL, asF, asK, moL_lst, ModC, DivC,
  List.getElem?_cons_zero, List.getElem?_cons_succ, List.set_cons_zero, List.set_cons_succ, List.getElem?_nil, List.length_cons, List.length_nil, List.length_map, Option.map_some, Option.bind_some, Option.isSome_some, if_true, true_and, and_true, MM.push])
local macro_rules | `(tactic| walk_at "lim") => `(tactic| repeat (first | (refine ⟨by decide, ?_⟩) | (refine ⟨by (try simp only [List.length_map, List.length_dropLast, List.length_append, List.length_cons, List.length_nil, List.length_replicate, List.length_take, List.length_drop, List.length_range]); (show _ ≤ 16777216); omega, ?_⟩)))

set_option hygiene false in
local macro_rules | `(tactic| walk_at "stp") => `(tactic| (refine dSeq_k fun k1 h1 => ?_; walk_at "dx"))
set_option hygiene false in
local macro_rules | `(tactic| walk_at "nxt") => `(tactic| (subst h1; (try dsimp only); refine dSeq_k fun k1 h1 => ?_; walk_at "dx"))
set_option hygiene false in
local macro_rules | `(tactic| walk_at "lst") => `(tactic| (subst h1; (try dsimp only); walk_at "dx"))
set_option hygiene false in
local macro_rules | `(tactic| walk_at "nxt2") => `(tactic| (subst h2; (try dsimp only); refine dSeq_k fun k2 h2 => ?_; walk_at "dx"))
set_option hygiene false in
local macro_rules | `(tactic| walk_at "stp2") => `(tactic| (refine dSeq_k fun k2 h2 => ?_; walk_at "dx"))
set_option hygiene false in
local macro_rules | `(tactic| walk_at "lst2") => `(tactic| (subst h2; (try dsimp only); walk_at "dx"))

/-! ### the states in themselves -/
structure OKs (s : AS) : Prop where
  v1 : V1 s
  v2 : s.b ≤ s.round → V2 s (leftL s)
theorem V2.same {s s' : AS} {L : Nat} (h : V2 s L) (e : (s'.c, s'.wide, s'.share, s'.below, s'.fac, s'.rest, s'.left) = (s.c, s.wide, s.share, s.below, s.fac, s.rest, s.left)) : V2 s' L := by
  simp only [Prod.mk.injEq] at e
  obtain ⟨e1, e2, e3, e4, e5, e6, e7⟩ := e
  exact ⟨by rw [e3, e1]; exact h.share, by rw [e4, e1]; exact h.below, by rw [e4, e2]; exact h.bl, by rw [e5, e1]; exact h.fac, by rw [e5]; exact h.facl, by rw [e6, e1]; exact h.rest, by rw [e6]; exact h.restl, by rw [e7, e1]; exact h.left, by rw [e7]; exact h.leftl⟩
theorem turn2_v2 {s : AS} (v1 : V1 s) (v2 : V2 s (leftP s)) (h : s.b ≤ s.round) : V2 (turn2 s) (leftL (turn2 s)) := by
  obtain ⟨q1, q2, q3, q4⟩ := turn2_r s
  have hp1 := v1.pm.1
  have hL : ∀ t : AS, t.round = s.round → t.b = s.b → t.wide = s.wide → leftL t = leftL s := fun t e1 e2 e3 => by unfold leftL; rw [e1, e2, e3]
  rw [hL _ q1 q2 q3]
  by_cases e : s.round = s.b + s.wide
  · have t2 : turn2 s = { s with fac := ft2 s.c.p (pointT s.first s.c.p) (gi s.left 0) s.gates (zer s.below.length), rest := rs2 s.c.p (pointT s.first s.c.p) (gi s.left 0) s.gates (zer s.below.length), left := s.below, steps := s.steps + (s.gates.length : Nat) } := if_pos e
    have k1 := foldset_ok hp1 (fun g : WG => g.y.toNat) (fun f g => gi f g.y + gi (pointT s.first s.c.p) g.x * (g.b + g.c * gi s.left 0)) s.gates (zer s.below.length) (zer_in hp1)
    have k2 := foldset_ok hp1 (fun g : WG => g.y.toNat) (fun f g => gi f g.y + gi (pointT s.first s.c.p) g.x * g.a % s.c.p * gi s.left 0) s.gates (zer s.below.length) (zer_in hp1)
    rw [zer_len, v2.bl] at k1 k2
    have hL : leftL s = 2 ^ s.wide := by
      unfold leftL
      rw [if_neg (by omega), show s.wide - (s.round - s.b - s.wide) = s.wide by omega]
    rw [t2]
    refine ⟨v2.share, v2.below, v2.bl, ?_, ?_, ?_, ?_, v2.below, ?_⟩
    · show InP _ (ft2 _ _ _ _ _); rw [v2.bl]; exact k1.2
    · show (ft2 _ _ _ _ _).length = leftL s; rw [hL, v2.bl]; exact k1.1
    · show InP _ (rs2 _ _ _ _ _); rw [v2.bl]; exact k2.2
    · show (rs2 _ _ _ _ _).length = leftL s; rw [hL, v2.bl]; exact k2.1
    · show s.below.length = leftL s; rw [hL, v2.bl]
  · have t2 : turn2 s = s := if_neg e
    rw [t2]
    have : leftP s = leftL s := by
      unfold leftP leftL
      by_cases z : s.round < s.b + s.wide
      · rw [if_pos (by omega), if_pos z]
      · rw [if_neg (by omega), if_neg z]
    rw [← this]; exact v2
theorem turn_ok {s : AS} (v1 : V1 s) (v2 : s.b < s.round → V2 s (leftP s)) : OKs (turnF s) := by
  have tr := turnF_r s
  have t1r := turn1_r s
  refine ⟨turn2_v1 (turn1_v1 v1), fun h => ?_⟩
  rw [tr.1, tr.2.1] at h
  refine turn2_v2 (turn1_v1 v1) ?_ (by rw [t1r.1, t1r.2.1]; exact h)
  have hP : leftP (turn1 s) = leftP s := by unfold leftP; rw [t1r.1, t1r.2.1, t1r.2.2.1]
  rw [hP]
  by_cases e : s.round = s.b
  · have : leftP s = 2 ^ s.wide := by
      unfold leftP
      rw [if_pos (by omega), e, Nat.sub_self, Nat.sub_zero]
    rw [this]
    exact turn1_v2 v1 e
  · have t1 : turn1 s = s := if_neg e
    rw [t1]
    exact v2 (by omega)
theorem OKs.poly {s : AS} (h : OKs s) : OKs (polyS s) := ⟨h.v1.st _, fun e => (h.v2 e).st _⟩
theorem OKs.throw {s : AS} (ok : OKs s) {z : Int} (z0 : 0 ≤ z) (z1 : z < s.c.p) : OKs (throwF s z) := by
  have v1 := ok.v1
  have hp := v1.pm
  have hp1 := hp.1
  have mr := mid_r s z
  have nl := v1.nl
  have fle := v1.fl
  have sle := v1.sl
  unfold throwF
  by_cases hb : s.round < s.b
  · have em : midF s z = { s with near := foldS s.c.p s.near z, cols := s.cols.map fun c => foldS s.c.p c z } := if_pos hb
    have hh : 2 ^ (s.b - s.round) / 2 = 2 ^ (s.b - (s.round + 1)) := by rw [two_half (by omega)]; congr 1
    refine turn_ok ?_ fun h => ?_
    · rw [em]
      refine ⟨hp, v1.b3, v1.w3, v1.g, v1.gl, foldS_in hp1, ?_, ?_, fun c hc => ?_, v1.f, ?_, v1.sn, ?_⟩
      · show (foldS _ _ _).length = _
        rw [foldS_len, v1.nl]; exact hh
      · show (s.cols.map _).length = _
        rw [List.length_map, v1.cl]
      · obtain ⟨c0, h0, rfl⟩ := List.mem_map.mp hc
        exact ⟨foldS_in hp1, by rw [foldS_len, (v1.col c0 h0).2]; exact hh⟩
      · show s.first.length = min (s.round + 1 - s.b) s.wide
        omega
      · show s.second.length = min (s.round + 1 - s.b - s.wide) s.wide
        omega
    · have h : (midF s z).b < s.round + 1 := h
      rw [mr.2.2.b] at h; omega
  have v2 := ok.v2 (by omega)
  have hn0 : s.b - (s.round + 1) = s.b - s.round := by omega
  by_cases hw : s.round < s.b + 2 * s.wide
  · have em : midF s z = { s with fac := foldS s.c.p s.fac z, rest := foldS s.c.p s.rest z, left := foldS s.c.p s.left z, first := if s.round < s.b + s.wide then s.first ++ [z] else s.first, second := if s.round < s.b + s.wide then s.second else s.second ++ [z] } := by
      unfold midF; rw [if_neg hb, if_pos hw]
    have zin : ∀ xs : List Int, InP s.c.p xs → InP s.c.p (xs ++ [z]) := fun xs h x hx => by
      rcases List.mem_append.mp hx with y | y
      · exact h x y
      · rw [List.mem_singleton.mp y]; exact ⟨z0, z1⟩
    have V1a : (∀ f' s', f' = (if s.round < s.b + s.wide then s.first ++ [z] else s.first) → s' = (if s.round < s.b + s.wide then s.second else s.second ++ [z]) → InP s.c.p f' ∧ f'.length = min (s.round + 1 - s.b) s.wide ∧ InP s.c.p s' ∧ s'.length = min (s.round + 1 - s.b - s.wide) s.wide) := by
      rintro f' s' rfl rfl
      by_cases y : s.round < s.b + s.wide
      · rw [if_pos y, if_pos y]
        refine ⟨zin _ v1.f, ?_, v1.sn, by omega⟩
        rw [List.length_append]; show s.first.length + 1 = _; omega
      · rw [if_neg y, if_neg y]
        refine ⟨v1.f, by omega, zin _ v1.sn, ?_⟩
        rw [List.length_append]; show s.second.length + 1 = _; omega
    have hL1 : leftL s / 2 = leftP { midF s z with round := s.round + 1 } := by
      have e1 : leftP { midF s z with round := s.round + 1 } = if s.round + 1 ≤ s.b + s.wide then 2 ^ (s.wide - (s.round + 1 - s.b)) else 2 ^ (s.wide - (s.round + 1 - s.b - s.wide)) := by
        unfold leftP
        show (if s.round + 1 ≤ (midF s z).b + (midF s z).wide then _ else _) = _
        rw [mr.2.2.b, mr.2.1]
      rw [e1]
      unfold leftL
      by_cases y : s.round < s.b + s.wide
      · rw [if_pos y, if_pos (by omega), two_half (by omega)]; congr 1; omega
      · rw [if_neg y, if_neg (by omega), two_half (by omega)]; congr 1; omega
    refine turn_ok ?_ fun _ => ?_
    · obtain ⟨q1, q2, q3, q4⟩ := V1a _ _ rfl rfl
      rw [em]
      exact ⟨hp, v1.b3, v1.w3, v1.g, v1.gl, v1.near, by show s.near.length = 2 ^ (s.b - (s.round + 1)); rw [nl, hn0], v1.cl, fun c hc => ⟨(v1.col c hc).1, by show c.length = 2 ^ (s.b - (s.round + 1)); rw [(v1.col c hc).2, hn0]⟩, q1, q2, q3, q4⟩
    · rw [← hL1]
      rw [em]
      refine ⟨v2.share, v2.below, v2.bl, foldS_in hp1, ?_, foldS_in hp1, ?_, foldS_in hp1, ?_⟩
      · show (foldS _ _ _).length = _
        rw [foldS_len, v2.facl]
      · show (foldS _ _ _).length = _
        rw [foldS_len, v2.restl]
      · show (foldS _ _ _).length = _
        rw [foldS_len, v2.leftl]
  · have em : midF s z = s := by unfold midF; rw [if_neg hb, if_neg hw]
    rw [em]
    refine turn_ok ?_ fun _ => ?_
    · refine ⟨hp, v1.b3, v1.w3, v1.g, v1.gl, v1.near, by show s.near.length = _; rw [nl]; exact congrArg _ hn0.symm, v1.cl, fun c hc => ⟨(v1.col c hc).1, by rw [(v1.col c hc).2]; exact congrArg _ hn0.symm⟩, v1.f, ?_, v1.sn, ?_⟩
      · show s.first.length = min (s.round + 1 - s.b) s.wide
        omega
      · show s.second.length = min (s.round + 1 - s.b - s.wide) s.wide
        omega
    · have e1 : leftP { s with round := s.round + 1 } = leftL s := by
        unfold leftP leftL
        show (if s.round + 1 ≤ s.b + s.wide then 2 ^ (s.wide - (s.round + 1 - s.b)) else 2 ^ (s.wide - (s.round + 1 - s.b - s.wide))) = _
        rw [if_neg (by omega), if_neg (by omega)]
        congr 1; omega
      rw [e1]
      exact v2.same rfl
/-! ### the steps -/
end Dl

namespace Dl
open PySem L2
local macro_rules | `(tactic| walk_at "dl") => `(tactic| try simp only [dSeq, dSet, dRaise_one, dRaise_two, dTryAs, dXf, dIsE, List.lookup_cons, List.lookup_nil, beq_self_eq_true, Bool.false_eq_true, if_false, dOp, dUn, dVar, dC, dCB, dCons, dNil, dRet, dRetN, dIf, dB, dAnd, dOr, dNot, dDrop, dNext, dMethL, dSetIx, dAndV, dOrV, dNotV, dBlV, dIfE, dLst, dTup, dLstM, dCall, dChain, dAsg, dgName, dgTup, bindD, asT, dFor, diList, diRng1, diRng2, diEnumerate, diZip, diReversed, dLc, dLcM, dYes, wipeD, dAug, dSl, dSlT, dpN, dpS,
  oI, oI0, oB0, oAdd, oNeg, oEq, oNe, oIx, oIsN, oNotN, isNon, oShl, oApp, oPop, oPopAt, cLen, cInt, cAbs, cSum, cMax2, cMin2, cList, cIsi, tyD, asL, asF, asK, moL_lst, ModC, DivC,
  List.getElem?_cons_zero, List.getElem?_cons_succ, List.set_cons_zero, List.set_cons_succ, List.getElem?_nil, List.length_cons, List.length_nil, List.length_map, Option.map_some, Option.bind_some, Option.isSome_some, if_true, true_and, and_true, MM.push])
local macro_rules | `(tactic| walk_at "dx") => `(tactic| try simp only [eq_self_iff_true, okE_int, okE_bl, okE_non, eqD_int, eqD_bl, kq_NoneType_int, kq_NoneType_bool, kq_NoneType_list, kq_NoneType_tuple, kq_NoneType_str, kq_bool_int, kq_bool_bool, kq_bool_list, kq_bool_tuple, kq_bool_str, kq_int_int, kq_int_bool, kq_int_list, kq_int_tuple, kq_int_str, kq_str_int, kq_str_bool, kq_str_list, kq_str_tuple, kq_str_str, kq_list_int, kq_list_bool, kq_list_list, kq_list_tuple, kq_list_str, kq_tuple_int, kq_tuple_bool, kq_tuple_list, kq_tuple_tuple, kq_tuple_str, oInL, oIsB, oNotB, oEqH, oNeH, oShr, oExt, cMaxL, cMinL, cAny, cAll, cTuple, cListM, dRevL, dFld, dSetF, dAugF, dMeth, dMake, moI_ins, app_len, set_app, List.contains_cons, List.contains_nil, Bool.true_or,  Bool.true_eq_false, decide_true, not_true_eq_false, not_false_eq_true, Bool.not_true, Bool.not_false, decide_eq_true_eq, Bool.not_eq_true', decide_eq_false_iff_not, dSeq, dSet, dRaise_one, dRaise_two, dTryAs, dXf, dIsE, List.lookup_cons, List.lookup_nil, beq_self_eq_true, Bool.false_eq_true, if_false, dOp, dUn, dVar, dC, dCB, dCons, dNil, dRet, dRetN, dIf, dB, dAnd, dOr, dNot, dDrop, dNext, dMethL, dSetIx, dAndV, dOrV, dNotV, dBlV, dIfE, dLst, dTup, dLstM, dCall, dChain, dAsg, dgName, dgTup, bindD, asT, dFor, diList, diRng1, diRng2, diEnumerate, diZip, diReversed, dLc, dLcM, dYes, wipeD, dAug, dSl, dSlT, dpN, dpS,
  oI, oI0, oB0, oAdd, oNeg, oEq, oNe, oIx, oIsN, oNotN, isNon, oShl, oApp, oPop, oPopAt, cLen, cInt, cAbs, cSum, cMax2, cMin2, cList, cIsi, tyD, asL, asF, asK, moL_lst, ModC, DivC,
  List.getElem?_cons_zero, List.getElem?_cons_succ, List.set_cons_zero, List.set_cons_succ, List.getElem?_nil, List.length_cons, List.length_nil, List.length_map, Option.map_some, Option.bind_some, Option.isSome_some, if_true, true_and, and_true, MM.push])
local macro_rules | `(tactic| walk_at "lim") => `(tactic| repeat (first | (refine ⟨by decide, ?_⟩) | (refine ⟨by (try simp only [List.length_map, List.length_dropLast, List.length_append, List.length_cons, List.length_nil, List.length_replicate, List.length_take, List.length_drop, List.length_range]); (show _ ≤ 16777216); omega, ?_⟩)))

set_option hygiene false in
local macro_rules | `(tactic| walk_at "stp") => `(tactic| (refine dSeq_k fun k1 h1 => ?_; walk_at "dx"))
set_option hygiene false in
local macro_rules | `(tactic| walk_at "nxt") => `(tactic| (subst h1; (try dsimp only); refine dSeq_k fun k1 h1 => ?_; walk_at "dx"))
set_option hygiene false in
local macro_rules | `(tactic| walk_at "lst") => `(tactic| (subst h1; (try dsimp only); walk_at "dx"))
set_option hygiene false in
local macro_rules | `(tactic| walk_at "nxt2") => `(tactic| (subst h2; (try dsimp only); refine dSeq_k fun k2 h2 => ?_; walk_at "dx"))
set_option hygiene false in
local macro_rules | `(tactic| walk_at "stp2") => `(tactic| (refine dSeq_k fun k2 h2 => ?_; walk_at "dx"))
set_option hygiene false in
local macro_rules | `(tactic| walk_at "lst2") => `(tactic| (subst h2; (try dsimp only); walk_at "dx"))

/-! ### sums over corners -/
theorem S_congr {f g : Nat → Int} : ∀ n : Nat, (∀ i < n, f i = g i) → S n f = S n g
  | 0, _ => rfl
  | n + 1, h => by show S n f + f n = S n g + g n; rw [S_congr n fun i hi => h i (by omega), h n (by omega)]
theorem wt_corn : ∀ (n k z : Nat), k < 2 ^ n → z < 2 ^ n → wt (corn k n) z = if z = k then 1 else 0
  | 0, k, z, hk, hz => by
    have e1 : k = 0 := by simpa using hk
    have e2 : z = 0 := by simpa using hz
    rw [if_pos (by omega)]; rfl
  | n + 1, k, z, hk, hz => by
    rw [Nat.pow_succ] at hk hz
    rw [corn_succ]
    show (if z % 2 = 1 then _ else _) * wt _ (z / 2) = _
    rw [wt_corn n (k / 2) (z / 2) (by omega) (by omega)]
    by_cases h : z = k
    · subst h
      rw [if_pos rfl, if_pos rfl]
      rcases (show z % 2 = 0 ∨ z % 2 = 1 by omega) with h | h <;> rw [h] <;> simp
    · rw [if_neg h]
      by_cases h2 : z / 2 = k / 2
      · rw [if_pos h2]
        rcases (show z % 2 = 0 ∨ z % 2 = 1 by omega) with h3 | h3
        · have : k % 2 = 1 := by omega
          rw [h3, this]; simp
        · have : k % 2 = 0 := by omega
          rw [h3, this]; simp
      · rw [if_neg h2, Int.mul_zero]
theorem corn_len {i n : Nat} : (corn i n).length = n := by unfold corn; rw [List.length_map, List.length_range]
def mle (T pt : List Int) : Int := S (2 ^ pt.length) fun z => wt pt z * gi T (z : Nat)
theorem mle_nil {T : List Int} : mle T [] = gi T 0 := by show 0 + 1 * gi T 0 = _; omega
theorem wt_lo {x : Int} {r : List Int} {i : Nat} : wt (x :: r) (2 * i) = (1 - x) * wt r i := by
  show (if 2 * i % 2 = 1 then x else 1 - x) * wt r (2 * i / 2) = _
  rw [if_neg (by omega), show 2 * i / 2 = i by omega]
theorem wt_hi {x : Int} {r : List Int} {i : Nat} : wt (x :: r) (2 * i + 1) = x * wt r i := by
  show (if (2 * i + 1) % 2 = 1 then x else 1 - x) * wt r ((2 * i + 1) / 2) = _
  rw [if_pos (by omega), show (2 * i + 1) / 2 = i by omega]
theorem mle_at {T : List Int} {x : Int} {r : List Int} : mle T (x :: r) = S (2 ^ r.length) fun i => wt r i * atN T i x := by
  unfold mle
  rw [List.length_cons, Nat.pow_succ, Nat.mul_comm, S_pair]
  refine S_congr _ fun i _ => ?_
  rw [wt_lo, wt_hi]
  unfold atN
  rw [show ((2 * i : Nat) : Int) = 2 * (i : Nat) by omega, show ((2 * i + 1 : Nat) : Int) = 2 * (i : Nat) + 1 by omega]
  grind
theorem foldS_at {p x : Int} {T : List Int} {i : Nat} (h : i < T.length / 2) : gi (foldS p T x) (i : Nat) = atN T i x % p := by
  unfold foldS
  rw [gi_range h]; rfl
theorem mle_cons {p x : Int} {T r : List Int} (h : T.length = 2 ^ (r.length + 1)) : Cg p (mle T (x :: r)) (mle (foldS p T x) r) := by
  rw [mle_at]
  unfold mle
  rw [Nat.pow_succ] at h
  refine S_cg _ fun i hi => ?_
  rw [foldS_at (by omega)]
  exact Cg.mul .refl Cg.mod.symm
theorem mle_app {p : Int} : ∀ (r s T : List Int), T.length = 2 ^ (r.length + s.length) → Cg p (mle T (r ++ s)) (mle (r.foldl (foldS p) T) s)
  | [], _, _, _ => .refl
  | x :: r, s, T, h => by
    rw [List.length_cons, show r.length + 1 + s.length = (r.length + s.length) + 1 by omega] at h
    refine (mle_cons (r := r ++ s) (by rw [List.length_append]; exact h)).trans ?_
    rw [Nat.pow_succ] at h
    exact mle_app r s _ (by rw [foldS_len]; omega)
theorem S_corn {f : Nat → Int} {i l : Nat} (hi : i < 2 ^ l) : S (2 ^ l) (fun z => wt (corn i l) z * f z) = f i := by
  rw [S_congr (g := fun z => if z = i then f i else 0) (2 ^ l) fun z hz => by
    rw [wt_corn l i z hi hz]
    by_cases e : z = i
    · rw [if_pos e, if_pos e, e]; omega
    · rw [if_neg e, if_neg e, Int.zero_mul]]
  rw [S_one (i := i) (fun k hk => if_neg hk), if_pos hi, if_pos rfl]
theorem mle_tcorn {T : List Int} {t : Int} {i l : Nat} (hi : i < 2 ^ l) : mle T (t :: corn i l) = atN T i t := by
  rw [mle_at, corn_len]
  exact S_corn (f := fun i => atN T i t) hi
theorem mle_pointT {p : Int} {g s : List Int} (h : s.length = g.length) : Cg p (mle (pointT g p) s) (nPl g s) := by
  rw [← nPl_wt g s h.symm, ← h]
  unfold mle
  refine S_cg _ fun z hz => ?_
  rw [Int.mul_comm]
  exact Cg.mul (pointT_at (by rw [← h]; exact hz)) .refl
/-! ### the gates' sums -/
end Dl

namespace Dl
open PySem L2
local macro_rules | `(tactic| walk_at "dl") => `(tactic| try simp only [dSeq, dSet, dRaise_one, dRaise_two, dTryAs, dXf, dIsE, List.lookup_cons, List.lookup_nil, beq_self_eq_true, Bool.false_eq_true, if_false, dOp, dUn, dVar, dC, dCB, dCons, dNil, dRet, dRetN, dIf, dB, dAnd, dOr, dNot, dDrop, dNext, dMethL, dSetIx, dAndV, dOrV, dNotV, dBlV, dIfE, dLst, dTup, dLstM, dCall, dChain, dAsg, dgName, dgTup, bindD, asT, dFor, diList, diRng1, diRng2, diEnumerate, diZip, diReversed, dLc, dLcM, dYes, wipeD, dAug, dSl, dSlT, dpN, dpS,
  oI, oI0, oB0, oAdd, oNeg, oEq, oNe, oIx, oIsN, oNotN, isNon, oShl, oApp, oPop, oPopAt, cLen, cInt, cAbs, cSum, cMax2, cMin2, cList, cIsi, tyD, asL, asF, asK, moL_lst, ModC, DivC,
  List.getElem?_cons_zero, List.getElem?_cons_succ, List.set_cons_zero, List.set_cons_succ, List.getElem?_nil, List.length_cons, List.length_nil, List.length_map, Option.map_some, Option.bind_some, Option.isSome_some, if_true, true_and, and_true, MM.push])
local macro_rules | `(tactic| walk_at "dx") => `(tactic| try simp only [eq_self_iff_true, okE_int, okE_bl, okE_non, eqD_int, eqD_bl, kq_NoneType_int, kq_NoneType_bool, kq_NoneType_list, kq_NoneType_tuple, kq_NoneType_str, kq_bool_int, kq_bool_bool, kq_bool_list, kq_bool_tuple, kq_bool_str, kq_int_int, kq_int_bool, kq_int_list, kq_int_tuple, kq_int_str, kq_str_int, kq_str_bool, kq_str_list, kq_str_tuple, kq_str_str, kq_list_int, kq_list_bool, kq_list_list, kq_list_tuple, kq_list_str, kq_tuple_int, kq_tuple_bool, kq_tuple_list, kq_tuple_tuple, kq_tuple_str, oInL, oIsB, oNotB, oEqH, oNeH, oShr, oExt, cMaxL, cMinL, cAny, cAll, cTuple, cListM, dRevL, dFld, dSetF, dAugF, dMeth, dMake, moI_ins, app_len, set_app, List.contains_cons, List.contains_nil, Bool.true_or,  Bool.true_eq_false, decide_true, not_true_eq_false, not_false_eq_true, Bool.not_true, Bool.not_false, decide_eq_true_eq, Bool.not_eq_true', decide_eq_false_iff_not, dSeq, dSet, dRaise_one, dRaise_two, dTryAs, dXf, dIsE, List.lookup_cons, List.lookup_nil, beq_self_eq_true, Bool.false_eq_true, if_false, dOp, dUn, dVar, dC, dCB, dCons, dNil, dRet, dRetN, dIf, dB, dAnd, dOr, dNot, dDrop, dNext, dMethL, dSetIx, dAndV, dOrV, dNotV, dBlV, dIfE, dLst, dTup, dLstM, dCall, dChain, dAsg, dgName, dgTup, bindD, asT, dFor, diList, diRng1, diRng2, diEnumerate, diZip, diReversed, dLc, dLcM, dYes, wipeD, dAug, dSl, dSlT, dpN, dpS,
  oI, oI0, oB0, oAdd, oNeg, oEq, oNe, oIx, oIsN, oNotN, isNon, oShl, oApp, oPop, oPopAt, cLen, cInt, cAbs, cSum, cMax2, cMin2, cList, cIsi, tyD, asL, asF, asK, moL_lst, ModC, DivC,
  List.getElem?_cons_zero, List.getElem?_cons_succ, List.set_cons_zero, List.set_cons_succ, List.getElem?_nil, List.length_cons, List.length_nil, List.length_map, Option.map_some, Option.bind_some, Option.isSome_some, if_true, true_and, and_true, MM.push])
local macro_rules | `(tactic| walk_at "lim") => `(tactic| repeat (first | (refine ⟨by decide, ?_⟩) | (refine ⟨by (try simp only [List.length_map, List.length_dropLast, List.length_append, List.length_cons, List.length_nil, List.length_replicate, List.length_take, List.length_drop, List.length_range]); (show _ ≤ 16777216); omega, ?_⟩)))

set_option hygiene false in
local macro_rules | `(tactic| walk_at "stp") => `(tactic| (refine dSeq_k fun k1 h1 => ?_; walk_at "dx"))
set_option hygiene false in
local macro_rules | `(tactic| walk_at "nxt") => `(tactic| (subst h1; (try dsimp only); refine dSeq_k fun k1 h1 => ?_; walk_at "dx"))
set_option hygiene false in
local macro_rules | `(tactic| walk_at "lst") => `(tactic| (subst h1; (try dsimp only); walk_at "dx"))
set_option hygiene false in
local macro_rules | `(tactic| walk_at "nxt2") => `(tactic| (subst h2; (try dsimp only); refine dSeq_k fun k2 h2 => ?_; walk_at "dx"))
set_option hygiene false in
local macro_rules | `(tactic| walk_at "stp2") => `(tactic| (refine dSeq_k fun k2 h2 => ?_; walk_at "dx"))
set_option hygiene false in
local macro_rules | `(tactic| walk_at "lst2") => `(tactic| (subst h2; (try dsimp only); walk_at "dx"))

/-! ### the state by the throws so far -/
def fl1 (p : Int) (r t : List Int) : List Int := r.foldl (foldS p) t
structure Base (s : AS) (gs : List WG) (P1 : List Int) (C0 : List (List Int)) (r : List Int) : Prop where
  gates : s.gates = gs
  round : s.round = r.length
  near : s.near = fl1 s.c.p (r.take s.b) P1
  cols : s.cols = C0.map fun q => fl1 s.c.p (r.take s.b) q
  first : s.first = (r.drop s.b).take s.wide
  second : s.second = (r.drop (s.b + s.wide)).take s.wide
structure PhS (s : AS) : Prop where
  share : s.share = gi s.near 0
  below : s.below = s.cols.map fun c => gi c 0
structure Ph1 (s : AS) (r : List Int) : Prop extends PhS s where
  fac : s.fac = fl1 s.c.p (r.drop s.b) (ft1 s.c.p s.below s.gates (zer s.below.length))
  rest : s.rest = fl1 s.c.p (r.drop s.b) (rs1 s.c.p s.below s.gates (zer s.below.length))
  left : s.left = fl1 s.c.p (r.drop s.b) s.below
structure Ph2 (s : AS) (r : List Int) : Prop extends PhS s where
  fac : s.fac = fl1 s.c.p ((r.drop (s.b + s.wide)).take s.wide) (ft2 s.c.p (pointT s.first s.c.p) (gi (fl1 s.c.p ((r.drop s.b).take s.wide) s.below) 0) s.gates (zer s.below.length))
  rest : s.rest = fl1 s.c.p ((r.drop (s.b + s.wide)).take s.wide) (rs2 s.c.p (pointT s.first s.c.p) (gi (fl1 s.c.p ((r.drop s.b).take s.wide) s.below) 0) s.gates (zer s.below.length))
  left : s.left = fl1 s.c.p ((r.drop (s.b + s.wide)).take s.wide) s.below
structure Inv (s : AS) (gs : List WG) (P1 : List Int) (C0 : List (List Int)) (r : List Int) : Prop where
  base : Base s gs P1 C0 r
  one : s.b ≤ r.length → r.length < s.b + s.wide → Ph1 s r
  two : s.b + s.wide ≤ r.length → Ph2 s r
end Dl

namespace Dl
open PySem L2
local macro_rules | `(tactic| walk_at "dl") => `(tactic| try simp only [dSeq, dSet, dRaise_one, dRaise_two, dTryAs, dXf, dIsE, List.lookup_cons, List.lookup_nil, beq_self_eq_true, Bool.false_eq_true, if_false, dOp, dUn, dVar, dC, dCB, dCons, dNil, dRet, dRetN, dIf, dB, dAnd, dOr, dNot, dDrop, dNext, dMethL, dSetIx, dAndV, dOrV, dNotV, dBlV, dIfE, dLst, dTup, dLstM, dCall, dChain, dAsg, dgName, dgTup, bindD, asT, dFor, diList, diRng1, diRng2, diEnumerate, diZip, diReversed, dLc, dLcM, dYes, wipeD, dAug, dSl, dSlT, dpN, dpS,
  oI, oI0, oB0, oAdd, oNeg, oEq, oNe, oIx, oIsN, oNotN, isNon, oShl, oApp, oPop, oPopAt, cLen, cInt, cAbs, cSum, cMax2, cMin2, cList, cIsi, tyD, asL, asF, asK, moL_lst, ModC, DivC,
  List.getElem?_cons_zero, List.getElem?_cons_succ, List.set_cons_zero, List.set_cons_succ, List.getElem?_nil, List.length_cons, List.length_nil, List.length_map, Option.map_some, Option.bind_some, Option.isSome_some, if_true, true_and, and_true, MM.push])
local macro_rules | `(tactic| walk_at "dx") => `(tactic| try simp only [eq_self_iff_true, okE_int, okE_bl, okE_non, eqD_int, eqD_bl, kq_NoneType_int, kq_NoneType_bool, kq_NoneType_list, kq_NoneType_tuple, kq_NoneType_str, kq_bool_int, kq_bool_bool, kq_bool_list, kq_bool_tuple, kq_bool_str, kq_int_int, kq_int_bool, kq_int_list, kq_int_tuple, kq_int_str, kq_str_int, kq_str_bool, kq_str_list, kq_str_tuple, kq_str_str, kq_list_int, kq_list_bool, kq_list_list, kq_list_tuple, kq_list_str, kq_tuple_int, kq_tuple_bool, kq_tuple_list, kq_tuple_tuple, kq_tuple_str, oInL, oIsB, oNotB, oEqH, oNeH, oShr, oExt, cMaxL, cMinL, cAny, cAll, cTuple, cListM, dRevL, dFld, dSetF, dAugF, dMeth, dMake, moI_ins, app_len, set_app, List.contains_cons, List.contains_nil, Bool.true_or,  Bool.true_eq_false, decide_true, not_true_eq_false, not_false_eq_true, Bool.not_true, Bool.not_false, decide_eq_true_eq, Bool.not_eq_true', decide_eq_false_iff_not, dSeq, dSet, dRaise_one, dRaise_two, dTryAs, dXf, dIsE, List.lookup_cons, List.lookup_nil, beq_self_eq_true, Bool.false_eq_true, if_false, dOp, dUn, dVar, dC, dCB, dCons, dNil, dRet, dRetN, dIf, dB, dAnd, dOr, dNot, dDrop, dNext, dMethL, dSetIx, dAndV, dOrV, dNotV, dBlV, dIfE, dLst, dTup, dLstM, dCall, dChain, dAsg, dgName, dgTup, bindD, asT, dFor, diList, diRng1, diRng2, diEnumerate, diZip, diReversed, dLc, dLcM, dYes, wipeD, dAug, dSl, dSlT, dpN, dpS,
  oI, oI0, oB0, oAdd, oNeg, oEq, oNe, oIx, oIsN, oNotN, isNon, oShl, oApp, oPop, oPopAt, cLen, cInt, cAbs, cSum, cMax2, cMin2, cList, cIsi, tyD, asL, asF, asK, moL_lst, ModC, DivC,
  List.getElem?_cons_zero, List.getElem?_cons_succ, List.set_cons_zero, List.set_cons_succ, List.getElem?_nil, List.length_cons, List.length_nil, List.length_map, Option.map_some, Option.bind_some, Option.isSome_some, if_true, true_and, and_true, MM.push])
local macro_rules | `(tactic| walk_at "lim") => `(tactic| repeat (first | (refine ⟨by decide, ?_⟩) | (refine ⟨by (try simp only [List.length_map, List.length_dropLast, List.length_append, List.length_cons, List.length_nil, List.length_replicate, List.length_take, List.length_drop, List.length_range]); (show _ ≤ 16777216); omega, ?_⟩)))

set_option hygiene false in
local macro_rules | `(tactic| walk_at "stp") => `(tactic| (refine dSeq_k fun k1 h1 => ?_; walk_at "dx"))
set_option hygiene false in
local macro_rules | `(tactic| walk_at "nxt") => `(tactic| (subst h1; (try dsimp only); refine dSeq_k fun k1 h1 => ?_; walk_at "dx"))
set_option hygiene false in
local macro_rules | `(tactic| walk_at "lst") => `(tactic| (subst h1; (try dsimp only); walk_at "dx"))
set_option hygiene false in
local macro_rules | `(tactic| walk_at "nxt2") => `(tactic| (subst h2; (try dsimp only); refine dSeq_k fun k2 h2 => ?_; walk_at "dx"))
set_option hygiene false in
local macro_rules | `(tactic| walk_at "stp2") => `(tactic| (refine dSeq_k fun k2 h2 => ?_; walk_at "dx"))
set_option hygiene false in
local macro_rules | `(tactic| walk_at "lst2") => `(tactic| (subst h2; (try dsimp only); walk_at "dx"))

/-! ### the polynomials are the sums -/
end Dl

namespace Dl
open PySem L2
local macro_rules | `(tactic| walk_at "dl") => `(tactic| try simp only [dSeq, dSet, dRaise_one, dRaise_two, dTryAs, dXf, dIsE, List.lookup_cons, List.lookup_nil, beq_self_eq_true, Bool.false_eq_true, if_false, dOp, dUn, dVar, dC, dCB, dCons, dNil, dRet, dRetN, dIf, dB, dAnd, dOr, dNot, dDrop, dNext, dMethL, dSetIx, dAndV, dOrV, dNotV, dBlV, dIfE, dLst, dTup, dLstM, dCall, dChain, dAsg, dgName, dgTup, bindD, asT, dFor, diList, diRng1, diRng2, diEnumerate, diZip, diReversed, dLc, dLcM, dYes, wipeD, dAug, dSl, dSlT, dpN, dpS,
  oI, oI0, oB0, oAdd, oNeg, oEq, oNe, oIx, oIsN, oNotN, isNon, oShl, oApp, oPop, oPopAt, cLen, cInt, cAbs, cSum, cMax2, cMin2, cList, cIsi, tyD, asL, asF, asK, moL_lst, ModC, DivC,
  List.getElem?_cons_zero, List.getElem?_cons_succ, List.set_cons_zero, List.set_cons_succ, List.getElem?_nil, List.length_cons, List.length_nil, List.length_map, Option.map_some, Option.bind_some, Option.isSome_some, if_true, true_and, and_true, MM.push])
local macro_rules | `(tactic| walk_at "dx") => `(tactic| try simp only [eq_self_iff_true, okE_int, okE_bl, okE_non, eqD_int, eqD_bl, kq_NoneType_int, kq_NoneType_bool, kq_NoneType_list, kq_NoneType_tuple, kq_NoneType_str, kq_bool_int, kq_bool_bool, kq_bool_list, kq_bool_tuple, kq_bool_str, kq_int_int, kq_int_bool, kq_int_list, kq_int_tuple, kq_int_str, kq_str_int, kq_str_bool, kq_str_list, kq_str_tuple, kq_str_str, kq_list_int, kq_list_bool, kq_list_list, kq_list_tuple, kq_list_str, kq_tuple_int, kq_tuple_bool, kq_tuple_list, kq_tuple_tuple, kq_tuple_str, oInL, oIsB, oNotB, oEqH, oNeH, oShr, oExt, cMaxL, cMinL, cAny, cAll, cTuple, cListM, dRevL, dFld, dSetF, dAugF, dMeth, dMake, moI_ins, app_len, set_app, List.contains_cons, List.contains_nil, Bool.true_or,  Bool.true_eq_false, decide_true, not_true_eq_false, not_false_eq_true, Bool.not_true, Bool.not_false, decide_eq_true_eq, Bool.not_eq_true', decide_eq_false_iff_not, dSeq, dSet, dRaise_one, dRaise_two, dTryAs, dXf, dIsE, List.lookup_cons, List.lookup_nil, beq_self_eq_true, Bool.false_eq_true, if_false, dOp, dUn, dVar, dC, dCB, dCons, dNil, dRet, dRetN, dIf, dB, dAnd, dOr, dNot, dDrop, dNext, dMethL, dSetIx, dAndV, dOrV, dNotV, dBlV, dIfE, dLst, dTup, dLstM, dCall, dChain, dAsg, dgName, dgTup, bindD, asT, dFor, diList, diRng1, diRng2, diEnumerate, diZip, diReversed, dLc, dLcM, dYes, wipeD, dAug, dSl, dSlT, dpN, dpS,
  oI, oI0, oB0, oAdd, oNeg, oEq, oNe, oIx, oIsN, oNotN, isNon, oShl, oApp, oPop, oPopAt, cLen, cInt, cAbs, cSum, cMax2, cMin2, cList, cIsi, tyD, asL, asF, asK, moL_lst, ModC, DivC,
  List.getElem?_cons_zero, List.getElem?_cons_succ, List.set_cons_zero, List.set_cons_succ, List.getElem?_nil, List.length_cons, List.length_nil, List.length_map, Option.map_some, Option.bind_some, Option.isSome_some, if_true, true_and, and_true, MM.push])
local macro_rules | `(tactic| walk_at "lim") => `(tactic| repeat (first | (refine ⟨by decide, ?_⟩) | (refine ⟨by (try simp only [List.length_map, List.length_dropLast, List.length_append, List.length_cons, List.length_nil, List.length_replicate, List.length_take, List.length_drop, List.length_range]); (show _ ≤ 16777216); omega, ?_⟩)))

set_option hygiene false in
local macro_rules | `(tactic| walk_at "stp") => `(tactic| (refine dSeq_k fun k1 h1 => ?_; walk_at "dx"))
set_option hygiene false in
local macro_rules | `(tactic| walk_at "nxt") => `(tactic| (subst h1; (try dsimp only); refine dSeq_k fun k1 h1 => ?_; walk_at "dx"))
set_option hygiene false in
local macro_rules | `(tactic| walk_at "lst") => `(tactic| (subst h1; (try dsimp only); walk_at "dx"))
set_option hygiene false in
local macro_rules | `(tactic| walk_at "nxt2") => `(tactic| (subst h2; (try dsimp only); refine dSeq_k fun k2 h2 => ?_; walk_at "dx"))
set_option hygiene false in
local macro_rules | `(tactic| walk_at "stp2") => `(tactic| (refine dSeq_k fun k2 h2 => ?_; walk_at "dx"))
set_option hygiene false in
local macro_rules | `(tactic| walk_at "lst2") => `(tactic| (subst h2; (try dsimp only); walk_at "dx"))

/-! ### the laws' own nearness, values, weights -/
def nearL (p : Int) (a b : List Int) : Nat → Int
  | 0 => 1
  | k + 1 => nearL p a b k * (gi a (k : Nat) * gi b (k : Nat) + (1 - gi a (k : Nat)) * (1 - gi b (k : Nat))) % p
def C__law_near__2 : DC := fun ds m Φ _ => ∃ (a b : List Int) (p : Int), ds = [.lst (a.map D.int), .lst (b.map D.int), .int p] ∧ PM p ∧ InP p a ∧ InP p b ∧ a.length = b.length ∧ a.length ≤ 1000 ∧ Φ (.int (nearL p a b a.length)) m
def W__law_near__2 : DS := dSeq (dSet 3 (dC (.int 1))) (dSeq (dFor (diRng1 (dCons (dCB cLen (dCons (dVar 0) (dNil))) (dNil))) (dgName 4) (dSet 3 (dOp oMod (dCB cInt (dCons (dOp oMul (dVar 3) (dOp oAdd (dOp oMul (dOp oIx (dVar 0) (dVar 4)) (dOp oIx (dVar 1) (dVar 4))) (dOp oMul (dOp oSub (dC (.int 1)) (dOp oIx (dVar 0) (dVar 4))) (dOp oSub (dC (.int 1)) (dOp oIx (dVar 1) (dVar 4)))))) (dNil))) (dVar 2)))) (dRet (dVar 3)))
theorem nearL_in {p : Int} (hp : 2 ≤ p) {a b : List Int} : ∀ k : Nat, 0 ≤ nearL p a b k ∧ nearL p a b k < p
  | 0 => ⟨by show (0 : Int) ≤ 1; omega, by show (1 : Int) < p; omega⟩
  | k + 1 => mod_in hp
theorem rd__law_near__2 : ∀ ds m Φ Ψ, ds.length = 3 → C__law_near__2 ds m Φ Ψ → W__law_near__2 { nx := fun _ m' => Φ .non m', rt := Φ } (fun _ => Ψ) (ds.map some ++ List.replicate (5 - ds.length) none) m := by
  intro ds m Φ Ψ _ h
  obtain ⟨a, b, p, rfl, hp, ha, hb, hl, h1000, q⟩ := h
  have hp1 := hp.1
  have hp2 := hp.2
  change W__law_near__2 _ _ [some (.lst (a.map D.int)), some (.lst (b.map D.int)), some (.int p), none, none] m
  unfold W__law_near__2
  walk_at "stp"
  walk_at "nxt"
  refine ⟨⟨by omega, by omega⟩, ?_⟩
  rw [rngD0, Int.toNat_natCast]
  refine forW_nat (fun k ρ m' => ∃ v4 : Option D, ρ = [some (.lst (a.map D.int)), some (.lst (b.map D.int)), some (.int p), some (.int (nearL p a b k)), v4] ∧ m' = m) ?_ ?_ ⟨none, rfl, rfl⟩
  · rintro k kk hk hkk ρ m' ⟨v4, rfl, rfl⟩
    have na := nearL_in (a := a) (b := b) hp1 k
    have ga := ha.gN hk
    have gb := hb.gN (i := k) (by omega)
    walk_at "dx"
    refine ⟨_, atI_gi (by omega) (by omega), _, atI_gi (by omega) (by omega), mulR gb.1 (by omega), ?_⟩
    walk_at "dx"
    refine ⟨_, atI_gi (by omega) (by omega), ?_⟩
    walk_at "dx"
    refine ⟨_, atI_gi (by omega) (by omega), ?_⟩
    walk_at "dx"
    exact ⟨.inl ⟨by omega, by omega⟩, mulL na.1 (by omega), by omega, hkk _ _ ⟨_, rfl, rfl⟩⟩
  · rintro ρ m' ⟨v4, rfl, rfl⟩
    walk_at "lst"
    exact q
def C__law_corner : DC := fun ds m Φ _ => ∃ k n : Nat, ds = [.int (k : Nat), .int (n : Nat)] ∧ n ≤ 1000 ∧ Φ (.lst ((corn k n).map D.int)) m
def W__law_corner : DS := dRet (dLc (diRng1 (dCons (dVar 1) (dNil))) (dgName 2) (dYes) (dOp oMod (dCB cInt (dCons (dOp oShr (dVar 0) (dVar 2)) (dNil))) (dC (.int 2))) [2])
theorem shr_nat {k j : Nat} : ((k : Nat) : Int) / 2 ^ ((j : Nat) : Int).toNat = ((k / 2 ^ j : Nat) : Int) := by
  rw [Int.toNat_natCast, Int.natCast_ediv, Int.natCast_pow]; rfl
theorem rd__law_corner : ∀ ds m Φ Ψ, ds.length = 2 → C__law_corner ds m Φ Ψ → W__law_corner { nx := fun _ m' => Φ .non m', rt := Φ } (fun _ => Ψ) (ds.map some ++ List.replicate (3 - ds.length) none) m := by
  intro ds m Φ Ψ _ h
  obtain ⟨k, n, rfl, hn, q⟩ := h
  change W__law_corner _ _ [some (.int (k : Nat)), some (.int (n : Nat)), none] m
  unfold W__law_corner
  walk_at "dx"
  refine ⟨⟨by omega, by omega⟩, ?_⟩
  rw [rngD0, Int.toNat_natCast]
  refine lcW_fn (inj := fun i : Nat => D.int (i : Nat)) (out := D.int) (fun j : Nat => ((k / 2 ^ j % 2 : Nat) : Int)) m (List.range n) ?_ (fun _ => rfl) (by rw [List.length_range]; show _ ≤ 16777216; omega) q
  intro j hj m2 Θ hΘ
  walk_at "dx"
  refine ⟨by omega, by decide, ?_⟩
  rw [shr_nat, show ((k / 2 ^ j : Nat) : Int) % 2 = ((k / 2 ^ j % 2 : Nat) : Int) by omega]
  exact hΘ
theorem corn_in {p : Int} (hp : 2 ≤ p) {k n : Nat} : InP p (corn k n) := fun x hx => by
  obtain ⟨j, _, rfl⟩ := List.mem_map.mp hx
  omega
def nPf (a b : List Int) : Nat → Int
  | 0 => 1
  | k + 1 => nPf a b k * (gi a (k : Nat) * gi b (k : Nat) + (1 - gi a (k : Nat)) * (1 - gi b (k : Nat)))
theorem nPf_cons {x y : Int} {a b : List Int} : ∀ k : Nat, nPf (x :: a) (y :: b) (k + 1) = (x * y + (1 - x) * (1 - y)) * nPf a b k
  | 0 => by
    show 1 * (x * y + (1 - x) * (1 - y)) = _ * 1
    omega
  | k + 1 => by
    show nPf (x :: a) (y :: b) (k + 1) * (gi (x :: a) ((k + 1 : Nat) : Int) * gi (y :: b) ((k + 1 : Nat) : Int) + (1 - gi (x :: a) ((k + 1 : Nat) : Int)) * (1 - gi (y :: b) ((k + 1 : Nat) : Int))) = _
    rw [nPf_cons k]
    have e1 : gi (x :: a) ((k + 1 : Nat) : Int) = gi a (k : Nat) := by rw [gi_nat, gi_nat]; rfl
    have e2 : gi (y :: b) ((k + 1 : Nat) : Int) = gi b (k : Nat) := by rw [gi_nat, gi_nat]; rfl
    rw [e1, e2, Int.mul_assoc]; rfl
theorem nPf_pl : ∀ (a b : List Int), a.length = b.length → nPf a b a.length = nPl a b
  | [], [], _ => rfl
  | x :: a, y :: b, h => by
    rw [List.length_cons, nPf_cons, nPf_pl a b (by simpa using h)]; rfl
theorem nearL_f {p : Int} {a b : List Int} : ∀ k : Nat, Cg p (nearL p a b k) (nPf a b k)
  | 0 => .refl
  | k + 1 => Cg.mod.trans ((nearL_f k).mul .refl)
theorem nearL_cg {p : Int} {a b : List Int} (h : a.length = b.length) : Cg p (nearL p a b a.length) (nPl a b) := by
  rw [← nPf_pl a b h]
  exact nearL_f _
theorem nPl_corn {k n : Nat} {pt : List Int} (hk : k < 2 ^ n) (hn : pt.length = n) : nPl (corn k n) pt = wt pt k := by
  rw [← nPl_wt _ _ (by rw [corn_len, hn]), corn_len]
  exact S_corn (f := fun z => wt pt z) hk
theorem near_corn {p : Int} {k : Nat} {pt : List Int} (hk : k < 2 ^ pt.length) : Cg p (nearL p (corn k pt.length) pt (corn k pt.length).length) (wt pt k) := by
  rw [← nPl_corn (n := pt.length) hk rfl]
  exact nearL_cg corn_len
def C__law_value__2 : DC := fun ds m Φ _ => ∃ (t pt : List Int) (p : Int), ds = [.lst (t.map D.int), .lst (pt.map D.int), .int p] ∧ PM p ∧ InP p t ∧ InP p pt ∧ t.length = 2 ^ pt.length ∧ pt.length ≤ 16 ∧ Φ (.int (mle t pt % p)) m
def W__law_value__2 : DS := dSeq (dSet 3 (dC (.int 0))) (dSeq (dFor (diRng1 (dCons (dCB cLen (dCons (dVar 0) (dNil))) (dNil))) (dgName 4) (dSet 3 (dOp oAdd (dVar 3) (dOp oMul (dOp oIx (dVar 0) (dVar 4)) (dCall 3 C__law_near__2 (dCons (dCall 2 C__law_corner (dCons (dVar 4) (dCons (dCB cLen (dCons (dVar 1) (dNil))) (dNil)))) (dCons (dVar 1) (dCons (dVar 2) (dNil))))))))) (dRet (dOp oMod (dCB cInt (dCons (dVar 3) (dNil))) (dVar 2))))
theorem rd__law_value__2 : ∀ ds m Φ Ψ, ds.length = 3 → C__law_value__2 ds m Φ Ψ → W__law_value__2 { nx := fun _ m' => Φ .non m', rt := Φ } (fun _ => Ψ) (ds.map some ++ List.replicate (5 - ds.length) none) m := by
  intro ds m Φ Ψ _ h
  obtain ⟨t, pt, p, rfl, hp, ht, hpt, hl, h16, q⟩ := h
  have hp1 := hp.1
  have hp2 := hp.2
  have p16 : (2 : Nat) ^ pt.length ≤ 2 ^ 16 := Nat.pow_le_pow_right (by decide) h16
  change W__law_value__2 _ _ [some (.lst (t.map D.int)), some (.lst (pt.map D.int)), some (.int p), none, none] m
  unfold W__law_value__2
  walk_at "stp"
  walk_at "nxt"
  refine ⟨⟨by omega, by omega⟩, ?_⟩
  rw [rngD0, Int.toNat_natCast]
  refine forW_nat (fun k ρ m' => ∃ (z : Int) (v4 : Option D), Cg p z (S k fun z => wt pt z * gi t (z : Nat)) ∧ ρ = [some (.lst (t.map D.int)), some (.lst (pt.map D.int)), some (.int p), some (.int z), v4] ∧ m' = m) ?_ ?_ ⟨0, none, .refl, rfl, rfl⟩
  · rintro k kk hk hkk ρ m' ⟨z, v4, hz, rfl, rfl⟩
    have gt := ht.gN hk
    walk_at "dx"
    refine ⟨_, atI_gi (by omega) (by omega), k, pt.length, rfl, by omega, ?_⟩
    refine ⟨corn k pt.length, pt, p, rfl, hp, corn_in hp1, hpt, corn_len, by rw [corn_len]; omega, ?_⟩
    walk_at "dx"
    refine ⟨mulL gt.1 (by omega), hkk _ _ ⟨_, _, ?_, rfl, rfl⟩⟩
    show Cg p _ (S k _ + wt pt k * gi t (k : Nat))
    rw [Int.mul_comm (wt pt k)]
    exact Cg.add hz (Cg.mul .refl (near_corn (by omega)))
  · rintro ρ m' ⟨z, v4, hz, rfl, rfl⟩
    walk_at "lst"
    rw [hl] at hz
    have e : z % p = mle t pt % p := hz
    rw [e]
    exact ⟨by omega, q⟩
def gA (X Y : List Int) : Gate → Int
  | .lin a x _ y => a * (wt X x.toNat * wt Y y.toNat)
  | .mul _ _ _ => 0
end Dl

namespace Dl
open PySem L2
local macro_rules | `(tactic| walk_at "dl") => `(tactic| try simp only [dSeq, dSet, dRaise_one, dRaise_two, dTryAs, dXf, dIsE, List.lookup_cons, List.lookup_nil, beq_self_eq_true, Bool.false_eq_true, if_false, dOp, dUn, dVar, dC, dCB, dCons, dNil, dRet, dRetN, dIf, dB, dAnd, dOr, dNot, dDrop, dNext, dMethL, dSetIx, dAndV, dOrV, dNotV, dBlV, dIfE, dLst, dTup, dLstM, dCall, dChain, dAsg, dgName, dgTup, bindD, asT, dFor, diList, diRng1, diRng2, diEnumerate, diZip, diReversed, dLc, dLcM, dYes, wipeD, dAug, dSl, dSlT, dpN, dpS,
  oI, oI0, oB0, oAdd, oNeg, oEq, oNe, oIx, oIsN, oNotN, isNon, oShl, oApp, oPop, oPopAt, cLen, cInt, cAbs, cSum, cMax2, cMin2, cList, cIsi, tyD, asL, asF, asK, moL_lst, ModC, DivC,
  List.getElem?_cons_zero, List.getElem?_cons_succ, List.set_cons_zero, List.set_cons_succ, List.getElem?_nil, List.length_cons, List.length_nil, List.length_map, Option.map_some, Option.bind_some, Option.isSome_some, if_true, true_and, and_true, MM.push])
local macro_rules | `(tactic| walk_at "dx") => `(tactic| try simp only [eq_self_iff_true, okE_int, okE_bl, okE_non, eqD_int, eqD_bl, kq_NoneType_int, kq_NoneType_bool, kq_NoneType_list, kq_NoneType_tuple, kq_NoneType_str, kq_bool_int, kq_bool_bool, kq_bool_list, kq_bool_tuple, kq_bool_str, kq_int_int, kq_int_bool, kq_int_list, kq_int_tuple, kq_int_str, kq_str_int, kq_str_bool, kq_str_list, kq_str_tuple, kq_str_str, kq_list_int, kq_list_bool, kq_list_list, kq_list_tuple, kq_list_str, kq_tuple_int, kq_tuple_bool, kq_tuple_list, kq_tuple_tuple, kq_tuple_str, oInL, oIsB, oNotB, oEqH, oNeH, oShr, oExt, cMaxL, cMinL, cAny, cAll, cTuple, cListM, dRevL, dFld, dSetF, dAugF, dMeth, dMake, moI_ins, app_len, set_app, List.contains_cons, List.contains_nil, Bool.true_or,  Bool.true_eq_false, decide_true, not_true_eq_false, not_false_eq_true, Bool.not_true, Bool.not_false, decide_eq_true_eq, Bool.not_eq_true', decide_eq_false_iff_not, dSeq, dSet, dRaise_one, dRaise_two, dTryAs, dXf, dIsE, List.lookup_cons, List.lookup_nil, beq_self_eq_true, Bool.false_eq_true, if_false, dOp, dUn, dVar, dC, dCB, dCons, dNil, dRet, dRetN, dIf, dB, dAnd, dOr, dNot, dDrop, dNext, dMethL, dSetIx, dAndV, dOrV, dNotV, dBlV, dIfE, dLst, dTup, dLstM, dCall, dChain, dAsg, dgName, dgTup, bindD, asT, dFor, diList, diRng1, diRng2, diEnumerate, diZip, diReversed, dLc, dLcM, dYes, wipeD, dAug, dSl, dSlT, dpN, dpS,
  oI, oI0, oB0, oAdd, oNeg, oEq, oNe, oIx, oIsN, oNotN, isNon, oShl, oApp, oPop, oPopAt, cLen, cInt, cAbs, cSum, cMax2, cMin2, cList, cIsi, tyD, asL, asF, asK, moL_lst, ModC, DivC,
  List.getElem?_cons_zero, List.getElem?_cons_succ, List.set_cons_zero, List.set_cons_succ, List.getElem?_nil, List.length_cons, List.length_nil, List.length_map, Option.map_some, Option.bind_some, Option.isSome_some, if_true, true_and, and_true, MM.push])
local macro_rules | `(tactic| walk_at "lim") => `(tactic| repeat (first | (refine ⟨by decide, ?_⟩) | (refine ⟨by (try simp only [List.length_map, List.length_dropLast, List.length_append, List.length_cons, List.length_nil, List.length_replicate, List.length_take, List.length_drop, List.length_range]); (show _ ≤ 16777216); omega, ?_⟩)))

set_option hygiene false in
local macro_rules | `(tactic| walk_at "stp") => `(tactic| (refine dSeq_k fun k1 h1 => ?_; walk_at "dx"))
set_option hygiene false in
local macro_rules | `(tactic| walk_at "nxt") => `(tactic| (subst h1; (try dsimp only); refine dSeq_k fun k1 h1 => ?_; walk_at "dx"))
set_option hygiene false in
local macro_rules | `(tactic| walk_at "lst") => `(tactic| (subst h1; (try dsimp only); walk_at "dx"))
set_option hygiene false in
local macro_rules | `(tactic| walk_at "nxt2") => `(tactic| (subst h2; (try dsimp only); refine dSeq_k fun k2 h2 => ?_; walk_at "dx"))
set_option hygiene false in
local macro_rules | `(tactic| walk_at "stp2") => `(tactic| (refine dSeq_k fun k2 h2 => ?_; walk_at "dx"))
set_option hygiene false in
local macro_rules | `(tactic| walk_at "lst2") => `(tactic| (subst h2; (try dsimp only); walk_at "dx"))

/-! ### a list taken apart -/
section
variable {X : Cx}
end
/-! ### the laws' sums -/
structure LayOK (c : Cir) (most wide b l : Nat) (B g : List Int) : Prop where
  ok : CirOK c most wide
  w3 : wide ≤ 3
  b3 : b ≤ 3
  hl : l < c.ls.length
  hB : InP c.p B
  bl : B.length = 2 ^ b * 2 ^ wN c (l + 1)
  hg : InP c.p g
  gl : g.length = b + wN c l
theorem LayOK.w {c : Cir} {most wide b l : Nat} {B g : List Int} (h : LayOK c most wide b l B g) : wN c (l + 1) ≤ 3 ∧ wN c l ≤ 3 := by
  have hwl := h.ok.wl
  have hl := h.hl
  have w3 := h.w3
  have e1 := wN_eq h.ok (i := l) (by omega)
  have e2 := wN_eq h.ok (i := l + 1) (by omega)
  have z1 := h.ok.w0 _ (gi_mem (show l < c.ws.length by omega))
  have z2 := h.ok.w0 _ (gi_mem (show l + 1 < c.ws.length by omega))
  omega
end Dl

namespace Dl
open PySem L2
local macro_rules | `(tactic| walk_at "dl") => `(tactic| try simp only [dSeq, dSet, dRaise_one, dRaise_two, dTryAs, dXf, dIsE, List.lookup_cons, List.lookup_nil, beq_self_eq_true, Bool.false_eq_true, if_false, dOp, dUn, dVar, dC, dCB, dCons, dNil, dRet, dRetN, dIf, dB, dAnd, dOr, dNot, dDrop, dNext, dMethL, dSetIx, dAndV, dOrV, dNotV, dBlV, dIfE, dLst, dTup, dLstM, dCall, dChain, dAsg, dgName, dgTup, bindD, asT, dFor, diList, diRng1, diRng2, diEnumerate, diZip, diReversed, dLc, dLcM, dYes, wipeD, dAug, dSl, dSlT, dpN, dpS,
  oI, oI0, oB0, oAdd, oNeg, oEq, oNe, oIx, oIsN, oNotN, isNon, oShl, oApp, oPop, oPopAt, cLen, cInt, cAbs, cSum, cMax2, cMin2, cList, cIsi, tyD, asL, asF, asK, moL_lst, ModC, DivC,
  List.getElem?_cons_zero, List.getElem?_cons_succ, List.set_cons_zero, List.set_cons_succ, List.getElem?_nil, List.length_cons, List.length_nil, List.length_map, Option.map_some, Option.bind_some, Option.isSome_some, if_true, true_and, and_true, MM.push])
local macro_rules | `(tactic| walk_at "dx") => `(tactic| try simp only [eq_self_iff_true, okE_int, okE_bl, okE_non, eqD_int, eqD_bl, kq_NoneType_int, kq_NoneType_bool, kq_NoneType_list, kq_NoneType_tuple, kq_NoneType_str, kq_bool_int, kq_bool_bool, kq_bool_list, kq_bool_tuple, kq_bool_str, kq_int_int, kq_int_bool, kq_int_list, kq_int_tuple, kq_int_str, kq_str_int, kq_str_bool, kq_str_list, kq_str_tuple, kq_str_str, kq_list_int, kq_list_bool, kq_list_list, kq_list_tuple, kq_list_str, kq_tuple_int, kq_tuple_bool, kq_tuple_list, kq_tuple_tuple, kq_tuple_str, oInL, oIsB, oNotB, oEqH, oNeH, oShr, oExt, cMaxL, cMinL, cAny, cAll, cTuple, cListM, dRevL, dFld, dSetF, dAugF, dMeth, dMake, moI_ins, app_len, set_app, List.contains_cons, List.contains_nil, Bool.true_or,  Bool.true_eq_false, decide_true, not_true_eq_false, not_false_eq_true, Bool.not_true, Bool.not_false, decide_eq_true_eq, Bool.not_eq_true', decide_eq_false_iff_not, dSeq, dSet, dRaise_one, dRaise_two, dTryAs, dXf, dIsE, List.lookup_cons, List.lookup_nil, beq_self_eq_true, Bool.false_eq_true, if_false, dOp, dUn, dVar, dC, dCB, dCons, dNil, dRet, dRetN, dIf, dB, dAnd, dOr, dNot, dDrop, dNext, dMethL, dSetIx, dAndV, dOrV, dNotV, dBlV, dIfE, dLst, dTup, dLstM, dCall, dChain, dAsg, dgName, dgTup, bindD, asT, dFor, diList, diRng1, diRng2, diEnumerate, diZip, diReversed, dLc, dLcM, dYes, wipeD, dAug, dSl, dSlT, dpN, dpS,
  oI, oI0, oB0, oAdd, oNeg, oEq, oNe, oIx, oIsN, oNotN, isNon, oShl, oApp, oPop, oPopAt, cLen, cInt, cAbs, cSum, cMax2, cMin2, cList, cIsi, tyD, asL, asF, asK, moL_lst, ModC, DivC,
  List.getElem?_cons_zero, List.getElem?_cons_succ, List.set_cons_zero, List.set_cons_succ, List.getElem?_nil, List.length_cons, List.length_nil, List.length_map, Option.map_some, Option.bind_some, Option.isSome_some, if_true, true_and, and_true, MM.push])
local macro_rules | `(tactic| walk_at "lim") => `(tactic| repeat (first | (refine ⟨by decide, ?_⟩) | (refine ⟨by (try simp only [List.length_map, List.length_dropLast, List.length_append, List.length_cons, List.length_nil, List.length_replicate, List.length_take, List.length_drop, List.length_range]); (show _ ≤ 16777216); omega, ?_⟩)))

set_option hygiene false in
local macro_rules | `(tactic| walk_at "stp") => `(tactic| (refine dSeq_k fun k1 h1 => ?_; walk_at "dx"))
set_option hygiene false in
local macro_rules | `(tactic| walk_at "nxt") => `(tactic| (subst h1; (try dsimp only); refine dSeq_k fun k1 h1 => ?_; walk_at "dx"))
set_option hygiene false in
local macro_rules | `(tactic| walk_at "lst") => `(tactic| (subst h1; (try dsimp only); walk_at "dx"))
set_option hygiene false in
local macro_rules | `(tactic| walk_at "nxt2") => `(tactic| (subst h2; (try dsimp only); refine dSeq_k fun k2 h2 => ?_; walk_at "dx"))
set_option hygiene false in
local macro_rules | `(tactic| walk_at "stp2") => `(tactic| (refine dSeq_k fun k2 h2 => ?_; walk_at "dx"))
set_option hygiene false in
local macro_rules | `(tactic| walk_at "lst2") => `(tactic| (subst h2; (try dsimp only); walk_at "dx"))
set_option hygiene false in
local macro_rules | `(tactic| walk_at "an") => `(tactic| (walk_at "dx"; (try simp only [dgTupG, dgsCons, dgsNil, dgFld, asT, dVar, List.length_cons, List.length_nil, List.getElem?_cons_zero, ob, obL, hk, moI_ins, Fl_Answerer.circuit, Fl_Answerer.tables, Fl_Answerer.bits, Fl_Answerer.p, Fl_Answerer.steps, Fl_Answerer.layer, Fl_Answerer.round, Fl_Answerer.wide, Fl_Answerer.gates, Fl_Answerer.near, Fl_Answerer.columns, Fl_Answerer.first, Fl_Answerer.second, Fl_Answerer.share, Fl_Answerer.below, Fl_Answerer.factors, Fl_Answerer.rest, Fl_Answerer.left,
  List.getElem?_set_self, List.set_set, List.length_set, look_put, String.reduceEq, reduceIte, exists_eq_left', Option.some.injEq, true_and, and_true])))

end Dl

namespace Dl
open PySem L2
local macro_rules | `(tactic| walk_at "dl") => `(tactic| try simp only [dSeq, dSet, dRaise_one, dRaise_two, dTryAs, dXf, dIsE, List.lookup_cons, List.lookup_nil, beq_self_eq_true, Bool.false_eq_true, if_false, dOp, dUn, dVar, dC, dCB, dCons, dNil, dRet, dRetN, dIf, dB, dAnd, dOr, dNot, dDrop, dNext, dMethL, dSetIx, dAndV, dOrV, dNotV, dBlV, dIfE, dLst, dTup, dLstM, dCall, dChain, dAsg, dgName, dgTup, bindD, asT, dFor, diList, diRng1, diRng2, diEnumerate, diZip, diReversed, dLc, dLcM, dYes, wipeD, dAug, dSl, dSlT, dpN, dpS,
  oI, oI0, oB0, oAdd, oNeg, oEq, oNe, oIx, oIsN, oNotN, isNon, oShl, oApp, oPop, oPopAt, cLen, cInt, cAbs, cSum, cMax2, cMin2, cList, cIsi, tyD, asL, asF, asK, moL_lst, ModC, DivC,
  List.getElem?_cons_zero, List.getElem?_cons_succ, List.set_cons_zero, List.set_cons_succ, List.getElem?_nil, List.length_cons, List.length_nil, List.length_map, Option.map_some, Option.bind_some, Option.isSome_some, if_true, true_and, and_true, MM.push])
local macro_rules | `(tactic| walk_at "dx") => `(tactic| try simp only [eq_self_iff_true, okE_int, okE_bl, okE_non, eqD_int, eqD_bl, kq_NoneType_int, kq_NoneType_bool, kq_NoneType_list, kq_NoneType_tuple, kq_NoneType_str, kq_bool_int, kq_bool_bool, kq_bool_list, kq_bool_tuple, kq_bool_str, kq_int_int, kq_int_bool, kq_int_list, kq_int_tuple, kq_int_str, kq_str_int, kq_str_bool, kq_str_list, kq_str_tuple, kq_str_str, kq_list_int, kq_list_bool, kq_list_list, kq_list_tuple, kq_list_str, kq_tuple_int, kq_tuple_bool, kq_tuple_list, kq_tuple_tuple, kq_tuple_str, oInL, oIsB, oNotB, oEqH, oNeH, oShr, oExt, cMaxL, cMinL, cAny, cAll, cTuple, cListM, dRevL, dFld, dSetF, dAugF, dMeth, dMake, moI_ins, app_len, set_app, List.contains_cons, List.contains_nil, Bool.true_or,  Bool.true_eq_false, decide_true, not_true_eq_false, not_false_eq_true, Bool.not_true, Bool.not_false, decide_eq_true_eq, Bool.not_eq_true', decide_eq_false_iff_not, dSeq, dSet, dRaise_one, dRaise_two, dTryAs, dXf, dIsE, List.lookup_cons, List.lookup_nil, beq_self_eq_true, Bool.false_eq_true, if_false, dOp, dUn, dVar, dC, dCB, dCons, dNil, dRet, dRetN, dIf, dB, dAnd, dOr, dNot, dDrop, dNext, dMethL, dSetIx, dAndV, dOrV, dNotV, dBlV, dIfE, dLst, dTup, dLstM, dCall, dChain, dAsg, dgName, dgTup, bindD, asT, dFor, diList, diRng1, diRng2, diEnumerate, diZip, diReversed, dLc, dLcM, dYes, wipeD, dAug, dSl, dSlT, dpN, dpS,
  oI, oI0, oB0, oAdd, oNeg, oEq, oNe, oIx, oIsN, oNotN, isNon, oShl, oApp, oPop, oPopAt, cLen, cInt, cAbs, cSum, cMax2, cMin2, cList, cIsi, tyD, asL, asF, asK, moL_lst, ModC, DivC,
  List.getElem?_cons_zero, List.getElem?_cons_succ, List.set_cons_zero, List.set_cons_succ, List.getElem?_nil, List.length_cons, List.length_nil, List.length_map, Option.map_some, Option.bind_some, Option.isSome_some, if_true, true_and, and_true, MM.push])
local macro_rules | `(tactic| walk_at "lim") => `(tactic| repeat (first | (refine ⟨by decide, ?_⟩) | (refine ⟨by (try simp only [List.length_map, List.length_dropLast, List.length_append, List.length_cons, List.length_nil, List.length_replicate, List.length_take, List.length_drop, List.length_range]); (show _ ≤ 16777216); omega, ?_⟩)))

set_option hygiene false in
local macro_rules | `(tactic| walk_at "stp") => `(tactic| (refine dSeq_k fun k1 h1 => ?_; walk_at "dx"))
set_option hygiene false in
local macro_rules | `(tactic| walk_at "nxt") => `(tactic| (subst h1; (try dsimp only); refine dSeq_k fun k1 h1 => ?_; walk_at "dx"))
set_option hygiene false in
local macro_rules | `(tactic| walk_at "lst") => `(tactic| (subst h1; (try dsimp only); walk_at "dx"))
set_option hygiene false in
local macro_rules | `(tactic| walk_at "nxt2") => `(tactic| (subst h2; (try dsimp only); refine dSeq_k fun k2 h2 => ?_; walk_at "dx"))
set_option hygiene false in
local macro_rules | `(tactic| walk_at "stp2") => `(tactic| (refine dSeq_k fun k2 h2 => ?_; walk_at "dx"))
set_option hygiene false in
local macro_rules | `(tactic| walk_at "lst2") => `(tactic| (subst h2; (try dsimp only); walk_at "dx"))

/-! ### the sums are polynomials -/
def Aff (f : Int → Int) : Prop := ∃ a b : Int, ∀ t, f t = a + b * t
theorem Aff.const (c : Int) : Aff fun _ => c := ⟨c, 0, fun t => by show c = c + 0 * t; omega⟩
theorem Aff.add {f g : Int → Int} : Aff f → Aff g → Aff fun t => f t + g t := fun ⟨a, b, h⟩ ⟨c, d, k⟩ => ⟨a + c, b + d, fun t => by show f t + g t = _; rw [h, k]; grind⟩
theorem Aff.smul {f : Int → Int} (c : Int) : Aff f → Aff fun t => c * f t := fun ⟨a, b, h⟩ => ⟨c * a, c * b, fun t => by show c * f t = _; rw [h]; grind⟩
theorem Aff.S {F : Nat → Int → Int} : ∀ n : Nat, (∀ i < n, Aff (F i)) → Aff fun t => Dl.S n fun i => F i t
  | 0, _ => .const 0
  | n + 1, h => (Aff.S n fun i hi => h i (by omega)).add (h n (by omega))
end Dl

namespace Dl
open PySem L2
local macro_rules | `(tactic| walk_at "dl") => `(tactic| try simp only [dSeq, dSet, dRaise_one, dRaise_two, dTryAs, dXf, dIsE, List.lookup_cons, List.lookup_nil, beq_self_eq_true, Bool.false_eq_true, if_false, dOp, dUn, dVar, dC, dCB, dCons, dNil, dRet, dRetN, dIf, dB, dAnd, dOr, dNot, dDrop, dNext, dMethL, dSetIx, dAndV, dOrV, dNotV, dBlV, dIfE, dLst, dTup, dLstM, dCall, dChain, dAsg, dgName, dgTup, bindD, asT, dFor, diList, diRng1, diRng2, diEnumerate, diZip, diReversed, dLc, dLcM, dYes, wipeD, dAug, dSl, dSlT, dpN, dpS,
  oI, oI0, oB0, oAdd, oNeg, oEq, oNe, oIx, oIsN, oNotN, isNon, oShl, oApp, oPop, oPopAt, cLen, cInt, cAbs, cSum, cMax2, cMin2, cList, cIsi, tyD, asL, asF, asK, moL_lst, ModC, DivC,
  List.getElem?_cons_zero, List.getElem?_cons_succ, List.set_cons_zero, List.set_cons_succ, List.getElem?_nil, List.length_cons, List.length_nil, List.length_map, Option.map_some, Option.bind_some, Option.isSome_some, if_true, true_and, and_true, MM.push])
local macro_rules | `(tactic| walk_at "dx") => `(tactic| try simp only [eq_self_iff_true, okE_int, okE_bl, okE_non, eqD_int, eqD_bl, kq_NoneType_int, kq_NoneType_bool, kq_NoneType_list, kq_NoneType_tuple, kq_NoneType_str, kq_bool_int, kq_bool_bool, kq_bool_list, kq_bool_tuple, kq_bool_str, kq_int_int, kq_int_bool, kq_int_list, kq_int_tuple, kq_int_str, kq_str_int, kq_str_bool, kq_str_list, kq_str_tuple, kq_str_str, kq_list_int, kq_list_bool, kq_list_list, kq_list_tuple, kq_list_str, kq_tuple_int, kq_tuple_bool, kq_tuple_list, kq_tuple_tuple, kq_tuple_str, oInL, oIsB, oNotB, oEqH, oNeH, oShr, oExt, cMaxL, cMinL, cAny, cAll, cTuple, cListM, dRevL, dFld, dSetF, dAugF, dMeth, dMake, moI_ins, app_len, set_app, List.contains_cons, List.contains_nil, Bool.true_or,  Bool.true_eq_false, decide_true, not_true_eq_false, not_false_eq_true, Bool.not_true, Bool.not_false, decide_eq_true_eq, Bool.not_eq_true', decide_eq_false_iff_not, dSeq, dSet, dRaise_one, dRaise_two, dTryAs, dXf, dIsE, List.lookup_cons, List.lookup_nil, beq_self_eq_true, Bool.false_eq_true, if_false, dOp, dUn, dVar, dC, dCB, dCons, dNil, dRet, dRetN, dIf, dB, dAnd, dOr, dNot, dDrop, dNext, dMethL, dSetIx, dAndV, dOrV, dNotV, dBlV, dIfE, dLst, dTup, dLstM, dCall, dChain, dAsg, dgName, dgTup, bindD, asT, dFor, diList, diRng1, diRng2, diEnumerate, diZip, diReversed, dLc, dLcM, dYes, wipeD, dAug, dSl, dSlT, dpN, dpS,
  oI, oI0, oB0, oAdd, oNeg, oEq, oNe, oIx, oIsN, oNotN, isNon, oShl, oApp, oPop, oPopAt, cLen, cInt, cAbs, cSum, cMax2, cMin2, cList, cIsi, tyD, asL, asF, asK, moL_lst, ModC, DivC,
  List.getElem?_cons_zero, List.getElem?_cons_succ, List.set_cons_zero, List.set_cons_succ, List.getElem?_nil, List.length_cons, List.length_nil, List.length_map, Option.map_some, Option.bind_some, Option.isSome_some, if_true, true_and, and_true, MM.push])
local macro_rules | `(tactic| walk_at "lim") => `(tactic| repeat (first | (refine ⟨by decide, ?_⟩) | (refine ⟨by (try simp only [List.length_map, List.length_dropLast, List.length_append, List.length_cons, List.length_nil, List.length_replicate, List.length_take, List.length_drop, List.length_range]); (show _ ≤ 16777216); omega, ?_⟩)))

set_option hygiene false in
local macro_rules | `(tactic| walk_at "stp") => `(tactic| (refine dSeq_k fun k1 h1 => ?_; walk_at "dx"))
set_option hygiene false in
local macro_rules | `(tactic| walk_at "nxt") => `(tactic| (subst h1; (try dsimp only); refine dSeq_k fun k1 h1 => ?_; walk_at "dx"))
set_option hygiene false in
local macro_rules | `(tactic| walk_at "lst") => `(tactic| (subst h1; (try dsimp only); walk_at "dx"))
set_option hygiene false in
local macro_rules | `(tactic| walk_at "nxt2") => `(tactic| (subst h2; (try dsimp only); refine dSeq_k fun k2 h2 => ?_; walk_at "dx"))
set_option hygiene false in
local macro_rules | `(tactic| walk_at "stp2") => `(tactic| (refine dSeq_k fun k2 h2 => ?_; walk_at "dx"))
set_option hygiene false in
local macro_rules | `(tactic| walk_at "lst2") => `(tactic| (subst h2; (try dsimp only); walk_at "dx"))

/-! ### a layer's table is the sum over the layer below -/
end Dl

namespace Dl
open PySem L2
local macro_rules | `(tactic| walk_at "dl") => `(tactic| try simp only [dSeq, dSet, dRaise_one, dRaise_two, dTryAs, dXf, dIsE, List.lookup_cons, List.lookup_nil, beq_self_eq_true, Bool.false_eq_true, if_false, dOp, dUn, dVar, dC, dCB, dCons, dNil, dRet, dRetN, dIf, dB, dAnd, dOr, dNot, dDrop, dNext, dMethL, dSetIx, dAndV, dOrV, dNotV, dBlV, dIfE, dLst, dTup, dLstM, dCall, dChain, dAsg, dgName, dgTup, bindD, asT, dFor, diList, diRng1, diRng2, diEnumerate, diZip, diReversed, dLc, dLcM, dYes, wipeD, dAug, dSl, dSlT, dpN, dpS,
  oI, oI0, oB0, oAdd, oNeg, oEq, oNe, oIx, oIsN, oNotN, isNon, oShl, oApp, oPop, oPopAt, cLen, cInt, cAbs, cSum, cMax2, cMin2, cList, cIsi, tyD, asL, asF, asK, moL_lst, ModC, DivC,
  List.getElem?_cons_zero, List.getElem?_cons_succ, List.set_cons_zero, List.set_cons_succ, List.getElem?_nil, List.length_cons, List.length_nil, List.length_map, Option.map_some, Option.bind_some, Option.isSome_some, if_true, true_and, and_true, MM.push])
local macro_rules | `(tactic| walk_at "dx") => `(tactic| try simp only [eq_self_iff_true, okE_int, okE_bl, okE_non, eqD_int, eqD_bl, kq_NoneType_int, kq_NoneType_bool, kq_NoneType_list, kq_NoneType_tuple, kq_NoneType_str, kq_bool_int, kq_bool_bool, kq_bool_list, kq_bool_tuple, kq_bool_str, kq_int_int, kq_int_bool, kq_int_list, kq_int_tuple, kq_int_str, kq_str_int, kq_str_bool, kq_str_list, kq_str_tuple, kq_str_str, kq_list_int, kq_list_bool, kq_list_list, kq_list_tuple, kq_list_str, kq_tuple_int, kq_tuple_bool, kq_tuple_list, kq_tuple_tuple, kq_tuple_str, oInL, oIsB, oNotB, oEqH, oNeH, oShr, oExt, cMaxL, cMinL, cAny, cAll, cTuple, cListM, dRevL, dFld, dSetF, dAugF, dMeth, dMake, moI_ins, app_len, set_app, List.contains_cons, List.contains_nil, Bool.true_or,  Bool.true_eq_false, decide_true, not_true_eq_false, not_false_eq_true, Bool.not_true, Bool.not_false, decide_eq_true_eq, Bool.not_eq_true', decide_eq_false_iff_not, dSeq, dSet, dRaise_one, dRaise_two, dTryAs, dXf, dIsE, List.lookup_cons, List.lookup_nil, beq_self_eq_true, Bool.false_eq_true, if_false, dOp, dUn, dVar, dC, dCB, dCons, dNil, dRet, dRetN, dIf, dB, dAnd, dOr, dNot, dDrop, dNext, dMethL, dSetIx, dAndV, dOrV, dNotV, dBlV, dIfE, dLst, dTup, dLstM, dCall, dChain, dAsg, dgName, dgTup, bindD, asT, dFor, diList, diRng1, diRng2, diEnumerate, diZip, diReversed, dLc, dLcM, dYes, wipeD, dAug, dSl, dSlT, dpN, dpS,
  oI, oI0, oB0, oAdd, oNeg, oEq, oNe, oIx, oIsN, oNotN, isNon, oShl, oApp, oPop, oPopAt, cLen, cInt, cAbs, cSum, cMax2, cMin2, cList, cIsi, tyD, asL, asF, asK, moL_lst, ModC, DivC,
  List.getElem?_cons_zero, List.getElem?_cons_succ, List.set_cons_zero, List.set_cons_succ, List.getElem?_nil, List.length_cons, List.length_nil, List.length_map, Option.map_some, Option.bind_some, Option.isSome_some, if_true, true_and, and_true, MM.push])
local macro_rules | `(tactic| walk_at "lim") => `(tactic| repeat (first | (refine ⟨by decide, ?_⟩) | (refine ⟨by (try simp only [List.length_map, List.length_dropLast, List.length_append, List.length_cons, List.length_nil, List.length_replicate, List.length_take, List.length_drop, List.length_range]); (show _ ≤ 16777216); omega, ?_⟩)))

set_option hygiene false in
local macro_rules | `(tactic| walk_at "stp") => `(tactic| (refine dSeq_k fun k1 h1 => ?_; walk_at "dx"))
set_option hygiene false in
local macro_rules | `(tactic| walk_at "nxt") => `(tactic| (subst h1; (try dsimp only); refine dSeq_k fun k1 h1 => ?_; walk_at "dx"))
set_option hygiene false in
local macro_rules | `(tactic| walk_at "lst") => `(tactic| (subst h1; (try dsimp only); walk_at "dx"))
set_option hygiene false in
local macro_rules | `(tactic| walk_at "nxt2") => `(tactic| (subst h2; (try dsimp only); refine dSeq_k fun k2 h2 => ?_; walk_at "dx"))
set_option hygiene false in
local macro_rules | `(tactic| walk_at "stp2") => `(tactic| (refine dSeq_k fun k2 h2 => ?_; walk_at "dx"))
set_option hygiene false in
local macro_rules | `(tactic| walk_at "lst2") => `(tactic| (subst h2; (try dsimp only); walk_at "dx"))

/-! ### the answers as the sums say -/
end Dl

namespace Dl
open PySem L2
local macro_rules | `(tactic| walk_at "dl") => `(tactic| try simp only [dSeq, dSet, dRaise_one, dRaise_two, dTryAs, dXf, dIsE, List.lookup_cons, List.lookup_nil, beq_self_eq_true, Bool.false_eq_true, if_false, dOp, dUn, dVar, dC, dCB, dCons, dNil, dRet, dRetN, dIf, dB, dAnd, dOr, dNot, dDrop, dNext, dMethL, dSetIx, dAndV, dOrV, dNotV, dBlV, dIfE, dLst, dTup, dLstM, dCall, dChain, dAsg, dgName, dgTup, bindD, asT, dFor, diList, diRng1, diRng2, diEnumerate, diZip, diReversed, dLc, dLcM, dYes, wipeD, dAug, dSl, dSlT, dpN, dpS,
  oI, oI0, oB0, oAdd, oNeg, oEq, oNe, oIx, oIsN, oNotN, isNon, oShl, oApp, oPop, oPopAt, cLen, cInt, cAbs, cSum, cMax2, cMin2, cList, cIsi, tyD, asL, asF, asK, moL_lst, ModC, DivC,
  List.getElem?_cons_zero, List.getElem?_cons_succ, List.set_cons_zero, List.set_cons_succ, List.getElem?_nil, List.length_cons, List.length_nil, List.length_map, Option.map_some, Option.bind_some, Option.isSome_some, if_true, true_and, and_true, MM.push])
local macro_rules | `(tactic| walk_at "dx") => `(tactic| try simp only [eq_self_iff_true, okE_int, okE_bl, okE_non, eqD_int, eqD_bl, kq_NoneType_int, kq_NoneType_bool, kq_NoneType_list, kq_NoneType_tuple, kq_NoneType_str, kq_bool_int, kq_bool_bool, kq_bool_list, kq_bool_tuple, kq_bool_str, kq_int_int, kq_int_bool, kq_int_list, kq_int_tuple, kq_int_str, kq_str_int, kq_str_bool, kq_str_list, kq_str_tuple, kq_str_str, kq_list_int, kq_list_bool, kq_list_list, kq_list_tuple, kq_list_str, kq_tuple_int, kq_tuple_bool, kq_tuple_list, kq_tuple_tuple, kq_tuple_str, oInL, oIsB, oNotB, oEqH, oNeH, oShr, oExt, cMaxL, cMinL, cAny, cAll, cTuple, cListM, dRevL, dFld, dSetF, dAugF, dMeth, dMake, moI_ins, app_len, set_app, List.contains_cons, List.contains_nil, Bool.true_or,  Bool.true_eq_false, decide_true, not_true_eq_false, not_false_eq_true, Bool.not_true, Bool.not_false, decide_eq_true_eq, Bool.not_eq_true', decide_eq_false_iff_not, dSeq, dSet, dRaise_one, dRaise_two, dTryAs, dXf, dIsE, List.lookup_cons, List.lookup_nil, beq_self_eq_true, Bool.false_eq_true, if_false, dOp, dUn, dVar, dC, dCB, dCons, dNil, dRet, dRetN, dIf, dB, dAnd, dOr, dNot, dDrop, dNext, dMethL, dSetIx, dAndV, dOrV, dNotV, dBlV, dIfE, dLst, dTup, dLstM, dCall, dChain, dAsg, dgName, dgTup, bindD, asT, dFor, diList, diRng1, diRng2, diEnumerate, diZip, diReversed, dLc, dLcM, dYes, wipeD, dAug, dSl, dSlT, dpN, dpS,
  oI, oI0, oB0, oAdd, oNeg, oEq, oNe, oIx, oIsN, oNotN, isNon, oShl, oApp, oPop, oPopAt, cLen, cInt, cAbs, cSum, cMax2, cMin2, cList, cIsi, tyD, asL, asF, asK, moL_lst, ModC, DivC,
  List.getElem?_cons_zero, List.getElem?_cons_succ, List.set_cons_zero, List.set_cons_succ, List.getElem?_nil, List.length_cons, List.length_nil, List.length_map, Option.map_some, Option.bind_some, Option.isSome_some, if_true, true_and, and_true, MM.push])
local macro_rules | `(tactic| walk_at "lim") => `(tactic| repeat (first | (refine ⟨by decide, ?_⟩) | (refine ⟨by (try simp only [List.length_map, List.length_dropLast, List.length_append, List.length_cons, List.length_nil, List.length_replicate, List.length_take, List.length_drop, List.length_range]); (show _ ≤ 16777216); omega, ?_⟩)))

set_option hygiene false in
local macro_rules | `(tactic| walk_at "stp") => `(tactic| (refine dSeq_k fun k1 h1 => ?_; walk_at "dx"))
set_option hygiene false in
local macro_rules | `(tactic| walk_at "nxt") => `(tactic| (subst h1; (try dsimp only); refine dSeq_k fun k1 h1 => ?_; walk_at "dx"))
set_option hygiene false in
local macro_rules | `(tactic| walk_at "lst") => `(tactic| (subst h1; (try dsimp only); walk_at "dx"))
set_option hygiene false in
local macro_rules | `(tactic| walk_at "nxt2") => `(tactic| (subst h2; (try dsimp only); refine dSeq_k fun k2 h2 => ?_; walk_at "dx"))
set_option hygiene false in
local macro_rules | `(tactic| walk_at "stp2") => `(tactic| (refine dSeq_k fun k2 h2 => ?_; walk_at "dx"))
set_option hygiene false in
local macro_rules | `(tactic| walk_at "lst2") => `(tactic| (subst h2; (try dsimp only); walk_at "dx"))
set_option hygiene false in
local macro_rules | `(tactic| walk_at "an") => `(tactic| (walk_at "dx"; (try simp only [dgTupG, dgsCons, dgsNil, dgFld, asT, dVar, List.length_cons, List.length_nil, List.getElem?_cons_zero, ob, obL, hk, moI_ins, Fl_Answerer.circuit, Fl_Answerer.tables, Fl_Answerer.bits, Fl_Answerer.p, Fl_Answerer.steps, Fl_Answerer.layer, Fl_Answerer.round, Fl_Answerer.wide, Fl_Answerer.gates, Fl_Answerer.near, Fl_Answerer.columns, Fl_Answerer.first, Fl_Answerer.second, Fl_Answerer.share, Fl_Answerer.below, Fl_Answerer.factors, Fl_Answerer.rest, Fl_Answerer.left,
  List.getElem?_set_self, List.set_set, List.length_set, look_put, String.reduceEq, reduceIte, exists_eq_left', Option.some.injEq, true_and, and_true])))

/-! ### the weights of a layer -/
end Dl

namespace Dl
open PySem L2
/-! ### the bluffer -/
structure BS where
  s : AS
  cl : List Int
  ch : List Int
  used : Nat
  claim : Int
  layer : Nat
  point : List Int
  throws : List Int
  sent : List Int
def blKeys : List String := ["honest", "circuit", "bits", "p", "claimed", "choices", "used", "claim", "layer", "point", "throws", "sent"]
class Fl_Bluffer (fl : String → List String) : Prop where
  honest : (fl "honest").contains "Bluffer" = true
  circuit : (fl "circuit").contains "Bluffer" = true
  bits : (fl "bits").contains "Bluffer" = true
  p : (fl "p").contains "Bluffer" = true
  claimed : (fl "claimed").contains "Bluffer" = true
  choices : (fl "choices").contains "Bluffer" = true
  used : (fl "used").contains "Bluffer" = true
  claim : (fl "claim").contains "Bluffer" = true
  layer : (fl "layer").contains "Bluffer" = true
  point : (fl "point").contains "Bluffer" = true
  throws : (fl "throws").contains "Bluffer" = true
  sent : (fl "sent").contains "Bluffer" = true
  abits : (fl "bits").contains "Answerer" = true
  ap : (fl "p").contains "Answerer" = true
local macro_rules | `(tactic| walk_at "dl") => `(tactic| try simp only [dSeq, dSet, dRaise_one, dRaise_two, dTryAs, dXf, dIsE, List.lookup_cons, List.lookup_nil, beq_self_eq_true, Bool.false_eq_true, if_false, dOp, dUn, dVar, dC, dCB, dCons, dNil, dRet, dRetN, dIf, dB, dAnd, dOr, dNot, dDrop, dNext, dMethL, dSetIx, dAndV, dOrV, dNotV, dBlV, dIfE, dLst, dTup, dLstM, dCall, dChain, dAsg, dgName, dgTup, bindD, asT, dFor, diList, diRng1, diRng2, diEnumerate, diZip, diReversed, dLc, dLcM, dYes, wipeD, dAug, dSl, dSlT, dpN, dpS,
  oI, oI0, oB0, oAdd, oNeg, oEq, oNe, oIx, oIsN, oNotN, isNon, oShl, oApp, oPop, oPopAt, cLen, cInt, cAbs, cSum, cMax2, cMin2, cList, cIsi, tyD, asL, asF, asK, moL_lst, ModC, DivC,
  List.getElem?_cons_zero, List.getElem?_cons_succ, List.set_cons_zero, List.set_cons_succ, List.getElem?_nil, List.length_cons, List.length_nil, List.length_map, Option.map_some, Option.bind_some, Option.isSome_some, if_true, true_and, and_true, MM.push])
local macro_rules | `(tactic| walk_at "dx") => `(tactic| try simp only [eq_self_iff_true, okE_int, okE_bl, okE_non, eqD_int, eqD_bl, kq_NoneType_int, kq_NoneType_bool, kq_NoneType_list, kq_NoneType_tuple, kq_NoneType_str, kq_bool_int, kq_bool_bool, kq_bool_list, kq_bool_tuple, kq_bool_str, kq_int_int, kq_int_bool, kq_int_list, kq_int_tuple, kq_int_str, kq_str_int, kq_str_bool, kq_str_list, kq_str_tuple, kq_str_str, kq_list_int, kq_list_bool, kq_list_list, kq_list_tuple, kq_list_str, kq_tuple_int, kq_tuple_bool, kq_tuple_list, kq_tuple_tuple, kq_tuple_str, oInL, oIsB, oNotB, oEqH, oNeH, oShr, oExt, cMaxL, cMinL, cAny, cAll, cTuple, cListM, dRevL, dFld, dSetF, dAugF, dMeth, dMake, moI_ins, app_len, set_app, List.contains_cons, List.contains_nil, Bool.true_or,  Bool.true_eq_false, decide_true, not_true_eq_false, not_false_eq_true, Bool.not_true, Bool.not_false, decide_eq_true_eq, Bool.not_eq_true', decide_eq_false_iff_not, dSeq, dSet, dRaise_one, dRaise_two, dTryAs, dXf, dIsE, List.lookup_cons, List.lookup_nil, beq_self_eq_true, Bool.false_eq_true, if_false, dOp, dUn, dVar, dC, dCB, dCons, dNil, dRet, dRetN, dIf, dB, dAnd, dOr, dNot, dDrop, dNext, dMethL, dSetIx, dAndV, dOrV, dNotV, dBlV, dIfE, dLst, dTup, dLstM, dCall, dChain, dAsg, dgName, dgTup, bindD, asT, dFor, diList, diRng1, diRng2, diEnumerate, diZip, diReversed, dLc, dLcM, dYes, wipeD, dAug, dSl, dSlT, dpN, dpS,
  oI, oI0, oB0, oAdd, oNeg, oEq, oNe, oIx, oIsN, oNotN, isNon, oShl, oApp, oPop, oPopAt, cLen, cInt, cAbs, cSum, cMax2, cMin2, cList, cIsi, tyD, asL, asF, asK, moL_lst, ModC, DivC,
  List.getElem?_cons_zero, List.getElem?_cons_succ, List.set_cons_zero, List.set_cons_succ, List.getElem?_nil, List.length_cons, List.length_nil, List.length_map, Option.map_some, Option.bind_some, Option.isSome_some, if_true, true_and, and_true, MM.push])
local macro_rules | `(tactic| walk_at "lim") => `(tactic| repeat (first | (refine ⟨by decide, ?_⟩) | (refine ⟨by (try simp only [List.length_map, List.length_dropLast, List.length_append, List.length_cons, List.length_nil, List.length_replicate, List.length_take, List.length_drop, List.length_range]); (show _ ≤ 16777216); omega, ?_⟩)))

set_option hygiene false in
local macro_rules | `(tactic| walk_at "stp") => `(tactic| (refine dSeq_k fun k1 h1 => ?_; walk_at "dx"))
set_option hygiene false in
local macro_rules | `(tactic| walk_at "nxt") => `(tactic| (subst h1; (try dsimp only); refine dSeq_k fun k1 h1 => ?_; walk_at "dx"))
set_option hygiene false in
local macro_rules | `(tactic| walk_at "lst") => `(tactic| (subst h1; (try dsimp only); walk_at "dx"))
set_option hygiene false in
local macro_rules | `(tactic| walk_at "nxt2") => `(tactic| (subst h2; (try dsimp only); refine dSeq_k fun k2 h2 => ?_; walk_at "dx"))
set_option hygiene false in
local macro_rules | `(tactic| walk_at "stp2") => `(tactic| (refine dSeq_k fun k2 h2 => ?_; walk_at "dx"))
set_option hygiene false in
local macro_rules | `(tactic| walk_at "lst2") => `(tactic| (subst h2; (try dsimp only); walk_at "dx"))
set_option hygiene false in
local macro_rules | `(tactic| walk_at "an") => `(tactic| (walk_at "dx"; (try simp only [dgTupG, dgsCons, dgsNil, dgFld, asT, dVar, List.length_cons, List.length_nil, List.getElem?_cons_zero, ob, obL, hk, moI_ins, Fl_Answerer.circuit, Fl_Answerer.tables, Fl_Answerer.bits, Fl_Answerer.p, Fl_Answerer.steps, Fl_Answerer.layer, Fl_Answerer.round, Fl_Answerer.wide, Fl_Answerer.gates, Fl_Answerer.near, Fl_Answerer.columns, Fl_Answerer.first, Fl_Answerer.second, Fl_Answerer.share, Fl_Answerer.below, Fl_Answerer.factors, Fl_Answerer.rest, Fl_Answerer.left,
  List.getElem?_set_self, List.set_set, List.length_set, look_put, String.reduceEq, reduceIte, exists_eq_left', Option.some.injEq, true_and, and_true])))
set_option hygiene false in
local macro_rules | `(tactic| walk_at "bl") => `(tactic| (walk_at "dx"; (try simp only [dgTupG, dgsCons, dgsNil, dgFld, asT, dVar, List.length_cons, List.length_nil, List.getElem?_cons_zero, ob, obL, obh, hk, moI_ins, Fl_Bluffer.honest, Fl_Bluffer.circuit, Fl_Bluffer.bits, Fl_Bluffer.p, Fl_Bluffer.claimed, Fl_Bluffer.choices, Fl_Bluffer.used, Fl_Bluffer.claim, Fl_Bluffer.layer, Fl_Bluffer.point, Fl_Bluffer.throws, Fl_Bluffer.sent, Fl_Bluffer.abits, Fl_Bluffer.ap,
  List.getElem?_set_self, List.set_set, List.length_set, look_put, String.reduceEq, reduceIte, exists_eq_left', Option.some.injEq, true_and, and_true])))

structure BF (fs : List (String × D)) (h : Nat) (s : BS) : Prop where
  k : KeysOK blKeys fs
  cl : ∀ n, h < n → clF n fs = true
  honest : fs.lookup "honest" = some (.hnd h)
  circuit : fs.lookup "circuit" = some (cD s.s.c)
  bits : fs.lookup "bits" = some (.int (s.s.b : Nat))
  p : fs.lookup "p" = some (.int s.s.c.p)
  claimed : fs.lookup "claimed" = some (.lst (s.cl.map D.int))
  choices : fs.lookup "choices" = some (.lst (s.ch.map D.int))
  used : fs.lookup "used" = some (.int (s.used : Nat))
  claim : fs.lookup "claim" = some (.int s.claim)
theorem BF.same {fs : List (String × D)} {h : Nat} {s s' : BS} (b : BF fs h s) (e1 : s'.s.c = s.s.c) (e2 : s'.s.b = s.s.b) (e : (s'.cl, s'.ch, s'.used, s'.claim) = (s.cl, s.ch, s.used, s.claim)) : BF fs h s' := by
  simp only [Prod.mk.injEq] at e
  obtain ⟨e3, e4, e5, e6⟩ := e
  exact ⟨b.k, b.cl, b.honest, by rw [e1]; exact b.circuit, by rw [e2]; exact b.bits, by rw [e1]; exact b.p, by rw [e3]; exact b.claimed, by rw [e4]; exact b.choices, by rw [e5]; exact b.used, by rw [e6]; exact b.claim⟩
end Dl

namespace Dl
open PySem L2
local macro_rules | `(tactic| walk_at "dl") => `(tactic| try simp only [dSeq, dSet, dRaise_one, dRaise_two, dTryAs, dXf, dIsE, List.lookup_cons, List.lookup_nil, beq_self_eq_true, Bool.false_eq_true, if_false, dOp, dUn, dVar, dC, dCB, dCons, dNil, dRet, dRetN, dIf, dB, dAnd, dOr, dNot, dDrop, dNext, dMethL, dSetIx, dAndV, dOrV, dNotV, dBlV, dIfE, dLst, dTup, dLstM, dCall, dChain, dAsg, dgName, dgTup, bindD, asT, dFor, diList, diRng1, diRng2, diEnumerate, diZip, diReversed, dLc, dLcM, dYes, wipeD, dAug, dSl, dSlT, dpN, dpS,
  oI, oI0, oB0, oAdd, oNeg, oEq, oNe, oIx, oIsN, oNotN, isNon, oShl, oApp, oPop, oPopAt, cLen, cInt, cAbs, cSum, cMax2, cMin2, cList, cIsi, tyD, asL, asF, asK, moL_lst, ModC, DivC,
  List.getElem?_cons_zero, List.getElem?_cons_succ, List.set_cons_zero, List.set_cons_succ, List.getElem?_nil, List.length_cons, List.length_nil, List.length_map, Option.map_some, Option.bind_some, Option.isSome_some, if_true, true_and, and_true, MM.push])
local macro_rules | `(tactic| walk_at "dx") => `(tactic| try simp only [eq_self_iff_true, okE_int, okE_bl, okE_non, eqD_int, eqD_bl, kq_NoneType_int, kq_NoneType_bool, kq_NoneType_list, kq_NoneType_tuple, kq_NoneType_str, kq_bool_int, kq_bool_bool, kq_bool_list, kq_bool_tuple, kq_bool_str, kq_int_int, kq_int_bool, kq_int_list, kq_int_tuple, kq_int_str, kq_str_int, kq_str_bool, kq_str_list, kq_str_tuple, kq_str_str, kq_list_int, kq_list_bool, kq_list_list, kq_list_tuple, kq_list_str, kq_tuple_int, kq_tuple_bool, kq_tuple_list, kq_tuple_tuple, kq_tuple_str, oInL, oIsB, oNotB, oEqH, oNeH, oShr, oExt, cMaxL, cMinL, cAny, cAll, cTuple, cListM, dRevL, dFld, dSetF, dAugF, dMeth, dMake, moI_ins, app_len, set_app, List.contains_cons, List.contains_nil, Bool.true_or,  Bool.true_eq_false, decide_true, not_true_eq_false, not_false_eq_true, Bool.not_true, Bool.not_false, decide_eq_true_eq, Bool.not_eq_true', decide_eq_false_iff_not, dSeq, dSet, dRaise_one, dRaise_two, dTryAs, dXf, dIsE, List.lookup_cons, List.lookup_nil, beq_self_eq_true, Bool.false_eq_true, if_false, dOp, dUn, dVar, dC, dCB, dCons, dNil, dRet, dRetN, dIf, dB, dAnd, dOr, dNot, dDrop, dNext, dMethL, dSetIx, dAndV, dOrV, dNotV, dBlV, dIfE, dLst, dTup, dLstM, dCall, dChain, dAsg, dgName, dgTup, bindD, asT, dFor, diList, diRng1, diRng2, diEnumerate, diZip, diReversed, dLc, dLcM, dYes, wipeD, dAug, dSl, dSlT, dpN, dpS,
  oI, oI0, oB0, oAdd, oNeg, oEq, oNe, oIx, oIsN, oNotN, isNon, oShl, oApp, oPop, oPopAt, cLen, cInt, cAbs, cSum, cMax2, cMin2, cList, cIsi, tyD, asL, asF, asK, moL_lst, ModC, DivC,
  List.getElem?_cons_zero, List.getElem?_cons_succ, List.set_cons_zero, List.set_cons_succ, List.getElem?_nil, List.length_cons, List.length_nil, List.length_map, Option.map_some, Option.bind_some, Option.isSome_some, if_true, true_and, and_true, MM.push])
local macro_rules | `(tactic| walk_at "lim") => `(tactic| repeat (first | (refine ⟨by decide, ?_⟩) | (refine ⟨by (try simp only [List.length_map, List.length_dropLast, List.length_append, List.length_cons, List.length_nil, List.length_replicate, List.length_take, List.length_drop, List.length_range]); (show _ ≤ 16777216); omega, ?_⟩)))

set_option hygiene false in
local macro_rules | `(tactic| walk_at "stp") => `(tactic| (refine dSeq_k fun k1 h1 => ?_; walk_at "dx"))
set_option hygiene false in
local macro_rules | `(tactic| walk_at "nxt") => `(tactic| (subst h1; (try dsimp only); refine dSeq_k fun k1 h1 => ?_; walk_at "dx"))
set_option hygiene false in
local macro_rules | `(tactic| walk_at "lst") => `(tactic| (subst h1; (try dsimp only); walk_at "dx"))
set_option hygiene false in
local macro_rules | `(tactic| walk_at "nxt2") => `(tactic| (subst h2; (try dsimp only); refine dSeq_k fun k2 h2 => ?_; walk_at "dx"))
set_option hygiene false in
local macro_rules | `(tactic| walk_at "stp2") => `(tactic| (refine dSeq_k fun k2 h2 => ?_; walk_at "dx"))
set_option hygiene false in
local macro_rules | `(tactic| walk_at "lst2") => `(tactic| (subst h2; (try dsimp only); walk_at "dx"))
set_option hygiene false in
local macro_rules | `(tactic| walk_at "an") => `(tactic| (walk_at "dx"; (try simp only [dgTupG, dgsCons, dgsNil, dgFld, asT, dVar, List.length_cons, List.length_nil, List.getElem?_cons_zero, ob, obL, hk, moI_ins, Fl_Answerer.circuit, Fl_Answerer.tables, Fl_Answerer.bits, Fl_Answerer.p, Fl_Answerer.steps, Fl_Answerer.layer, Fl_Answerer.round, Fl_Answerer.wide, Fl_Answerer.gates, Fl_Answerer.near, Fl_Answerer.columns, Fl_Answerer.first, Fl_Answerer.second, Fl_Answerer.share, Fl_Answerer.below, Fl_Answerer.factors, Fl_Answerer.rest, Fl_Answerer.left,
  List.getElem?_set_self, List.set_set, List.length_set, look_put, String.reduceEq, reduceIte, exists_eq_left', Option.some.injEq, true_and, and_true])))
set_option hygiene false in
local macro_rules | `(tactic| walk_at "bl") => `(tactic| (walk_at "dx"; (try simp only [dgTupG, dgsCons, dgsNil, dgFld, asT, dVar, List.length_cons, List.length_nil, List.getElem?_cons_zero, ob, obL, obh, hk, moI_ins, Fl_Bluffer.honest, Fl_Bluffer.circuit, Fl_Bluffer.bits, Fl_Bluffer.p, Fl_Bluffer.claimed, Fl_Bluffer.choices, Fl_Bluffer.used, Fl_Bluffer.claim, Fl_Bluffer.layer, Fl_Bluffer.point, Fl_Bluffer.throws, Fl_Bluffer.sent, Fl_Bluffer.abits, Fl_Bluffer.ap,
  List.getElem?_set_self, List.set_set, List.length_set, look_put, String.reduceEq, reduceIte, exists_eq_left', Option.some.injEq, true_and, and_true])))

/-! ### the bluffer's polynomials -/
end Dl

namespace Dl
open PySem L2
local macro_rules | `(tactic| walk_at "dl") => `(tactic| try simp only [dSeq, dSet, dRaise_one, dRaise_two, dTryAs, dXf, dIsE, List.lookup_cons, List.lookup_nil, beq_self_eq_true, Bool.false_eq_true, if_false, dOp, dUn, dVar, dC, dCB, dCons, dNil, dRet, dRetN, dIf, dB, dAnd, dOr, dNot, dDrop, dNext, dMethL, dSetIx, dAndV, dOrV, dNotV, dBlV, dIfE, dLst, dTup, dLstM, dCall, dChain, dAsg, dgName, dgTup, bindD, asT, dFor, diList, diRng1, diRng2, diEnumerate, diZip, diReversed, dLc, dLcM, dYes, wipeD, dAug, dSl, dSlT, dpN, dpS,
  oI, oI0, oB0, oAdd, oNeg, oEq, oNe, oIx, oIsN, oNotN, isNon, oShl, oApp, oPop, oPopAt, cLen, cInt, cAbs, cSum, cMax2, cMin2, cList, cIsi, tyD, asL, asF, asK, moL_lst, ModC, DivC,
  List.getElem?_cons_zero, List.getElem?_cons_succ, List.set_cons_zero, List.set_cons_succ, List.getElem?_nil, List.length_cons, List.length_nil, List.length_map, Option.map_some, Option.bind_some, Option.isSome_some, if_true, true_and, and_true, MM.push])
local macro_rules | `(tactic| walk_at "dx") => `(tactic| try simp only [eq_self_iff_true, okE_int, okE_bl, okE_non, eqD_int, eqD_bl, kq_NoneType_int, kq_NoneType_bool, kq_NoneType_list, kq_NoneType_tuple, kq_NoneType_str, kq_bool_int, kq_bool_bool, kq_bool_list, kq_bool_tuple, kq_bool_str, kq_int_int, kq_int_bool, kq_int_list, kq_int_tuple, kq_int_str, kq_str_int, kq_str_bool, kq_str_list, kq_str_tuple, kq_str_str, kq_list_int, kq_list_bool, kq_list_list, kq_list_tuple, kq_list_str, kq_tuple_int, kq_tuple_bool, kq_tuple_list, kq_tuple_tuple, kq_tuple_str, oInL, oIsB, oNotB, oEqH, oNeH, oShr, oExt, cMaxL, cMinL, cAny, cAll, cTuple, cListM, dRevL, dFld, dSetF, dAugF, dMeth, dMake, moI_ins, app_len, set_app, List.contains_cons, List.contains_nil, Bool.true_or,  Bool.true_eq_false, decide_true, not_true_eq_false, not_false_eq_true, Bool.not_true, Bool.not_false, decide_eq_true_eq, Bool.not_eq_true', decide_eq_false_iff_not, dSeq, dSet, dRaise_one, dRaise_two, dTryAs, dXf, dIsE, List.lookup_cons, List.lookup_nil, beq_self_eq_true, Bool.false_eq_true, if_false, dOp, dUn, dVar, dC, dCB, dCons, dNil, dRet, dRetN, dIf, dB, dAnd, dOr, dNot, dDrop, dNext, dMethL, dSetIx, dAndV, dOrV, dNotV, dBlV, dIfE, dLst, dTup, dLstM, dCall, dChain, dAsg, dgName, dgTup, bindD, asT, dFor, diList, diRng1, diRng2, diEnumerate, diZip, diReversed, dLc, dLcM, dYes, wipeD, dAug, dSl, dSlT, dpN, dpS,
  oI, oI0, oB0, oAdd, oNeg, oEq, oNe, oIx, oIsN, oNotN, isNon, oShl, oApp, oPop, oPopAt, cLen, cInt, cAbs, cSum, cMax2, cMin2, cList, cIsi, tyD, asL, asF, asK, moL_lst, ModC, DivC,
  List.getElem?_cons_zero, List.getElem?_cons_succ, List.set_cons_zero, List.set_cons_succ, List.getElem?_nil, List.length_cons, List.length_nil, List.length_map, Option.map_some, Option.bind_some, Option.isSome_some, if_true, true_and, and_true, MM.push])
local macro_rules | `(tactic| walk_at "lim") => `(tactic| repeat (first | (refine ⟨by decide, ?_⟩) | (refine ⟨by (try simp only [List.length_map, List.length_dropLast, List.length_append, List.length_cons, List.length_nil, List.length_replicate, List.length_take, List.length_drop, List.length_range]); (show _ ≤ 16777216); omega, ?_⟩)))

set_option hygiene false in
local macro_rules | `(tactic| walk_at "stp") => `(tactic| (refine dSeq_k fun k1 h1 => ?_; walk_at "dx"))
set_option hygiene false in
local macro_rules | `(tactic| walk_at "nxt") => `(tactic| (subst h1; (try dsimp only); refine dSeq_k fun k1 h1 => ?_; walk_at "dx"))
set_option hygiene false in
local macro_rules | `(tactic| walk_at "lst") => `(tactic| (subst h1; (try dsimp only); walk_at "dx"))
set_option hygiene false in
local macro_rules | `(tactic| walk_at "nxt2") => `(tactic| (subst h2; (try dsimp only); refine dSeq_k fun k2 h2 => ?_; walk_at "dx"))
set_option hygiene false in
local macro_rules | `(tactic| walk_at "stp2") => `(tactic| (refine dSeq_k fun k2 h2 => ?_; walk_at "dx"))
set_option hygiene false in
local macro_rules | `(tactic| walk_at "lst2") => `(tactic| (subst h2; (try dsimp only); walk_at "dx"))
set_option hygiene false in
local macro_rules | `(tactic| walk_at "an") => `(tactic| (walk_at "dx"; (try simp only [dgTupG, dgsCons, dgsNil, dgFld, asT, dVar, List.length_cons, List.length_nil, List.getElem?_cons_zero, ob, obL, hk, moI_ins, Fl_Answerer.circuit, Fl_Answerer.tables, Fl_Answerer.bits, Fl_Answerer.p, Fl_Answerer.steps, Fl_Answerer.layer, Fl_Answerer.round, Fl_Answerer.wide, Fl_Answerer.gates, Fl_Answerer.near, Fl_Answerer.columns, Fl_Answerer.first, Fl_Answerer.second, Fl_Answerer.share, Fl_Answerer.below, Fl_Answerer.factors, Fl_Answerer.rest, Fl_Answerer.left,
  List.getElem?_set_self, List.set_set, List.length_set, look_put, String.reduceEq, reduceIte, exists_eq_left', Option.some.injEq, true_and, and_true])))
set_option hygiene false in
local macro_rules | `(tactic| walk_at "bl") => `(tactic| (walk_at "dx"; (try simp only [dgTupG, dgsCons, dgsNil, dgFld, asT, dVar, List.length_cons, List.length_nil, List.getElem?_cons_zero, ob, obL, obh, hk, moI_ins, Fl_Bluffer.honest, Fl_Bluffer.circuit, Fl_Bluffer.bits, Fl_Bluffer.p, Fl_Bluffer.claimed, Fl_Bluffer.choices, Fl_Bluffer.used, Fl_Bluffer.claim, Fl_Bluffer.layer, Fl_Bluffer.point, Fl_Bluffer.throws, Fl_Bluffer.sent, Fl_Bluffer.abits, Fl_Bluffer.ap,
  List.getElem?_set_self, List.set_set, List.length_set, look_put, String.reduceEq, reduceIte, exists_eq_left', Option.some.injEq, true_and, and_true])))

end Dl

namespace Dl
open PySem L2
local macro_rules | `(tactic| walk_at "dl") => `(tactic| try simp only [dSeq, dSet, dRaise_one, dRaise_two, dTryAs, dXf, dIsE, List.lookup_cons, List.lookup_nil, beq_self_eq_true, Bool.false_eq_true, if_false, dOp, dUn, dVar, dC, dCB, dCons, dNil, dRet, dRetN, dIf, dB, dAnd, dOr, dNot, dDrop, dNext, dMethL, dSetIx, dAndV, dOrV, dNotV, dBlV, dIfE, dLst, dTup, dLstM, dCall, dChain, dAsg, dgName, dgTup, bindD, asT, dFor, diList, diRng1, diRng2, diEnumerate, diZip, diReversed, dLc, dLcM, dYes, wipeD, dAug, dSl, dSlT, dpN, dpS,
  oI, oI0, oB0, oAdd, oNeg, oEq, oNe, oIx, oIsN, oNotN, isNon, oShl, oApp, oPop, oPopAt, cLen, cInt, cAbs, cSum, cMax2, cMin2, cList, cIsi, tyD, asL, asF, asK, moL_lst, ModC, DivC,
  List.getElem?_cons_zero, List.getElem?_cons_succ, List.set_cons_zero, List.set_cons_succ, List.getElem?_nil, List.length_cons, List.length_nil, List.length_map, Option.map_some, Option.bind_some, Option.isSome_some, if_true, true_and, and_true, MM.push])
local macro_rules | `(tactic| walk_at "dx") => `(tactic| try simp only [eq_self_iff_true, okE_int, okE_bl, okE_non, eqD_int, eqD_bl, kq_NoneType_int, kq_NoneType_bool, kq_NoneType_list, kq_NoneType_tuple, kq_NoneType_str, kq_bool_int, kq_bool_bool, kq_bool_list, kq_bool_tuple, kq_bool_str, kq_int_int, kq_int_bool, kq_int_list, kq_int_tuple, kq_int_str, kq_str_int, kq_str_bool, kq_str_list, kq_str_tuple, kq_str_str, kq_list_int, kq_list_bool, kq_list_list, kq_list_tuple, kq_list_str, kq_tuple_int, kq_tuple_bool, kq_tuple_list, kq_tuple_tuple, kq_tuple_str, oInL, oIsB, oNotB, oEqH, oNeH, oShr, oExt, cMaxL, cMinL, cAny, cAll, cTuple, cListM, dRevL, dFld, dSetF, dAugF, dMeth, dMake, moI_ins, app_len, set_app, List.contains_cons, List.contains_nil, Bool.true_or,  Bool.true_eq_false, decide_true, not_true_eq_false, not_false_eq_true, Bool.not_true, Bool.not_false, decide_eq_true_eq, Bool.not_eq_true', decide_eq_false_iff_not, dSeq, dSet, dRaise_one, dRaise_two, dTryAs, dXf, dIsE, List.lookup_cons, List.lookup_nil, beq_self_eq_true, Bool.false_eq_true, if_false, dOp, dUn, dVar, dC, dCB, dCons, dNil, dRet, dRetN, dIf, dB, dAnd, dOr, dNot, dDrop, dNext, dMethL, dSetIx, dAndV, dOrV, dNotV, dBlV, dIfE, dLst, dTup, dLstM, dCall, dChain, dAsg, dgName, dgTup, bindD, asT, dFor, diList, diRng1, diRng2, diEnumerate, diZip, diReversed, dLc, dLcM, dYes, wipeD, dAug, dSl, dSlT, dpN, dpS,
  oI, oI0, oB0, oAdd, oNeg, oEq, oNe, oIx, oIsN, oNotN, isNon, oShl, oApp, oPop, oPopAt, cLen, cInt, cAbs, cSum, cMax2, cMin2, cList, cIsi, tyD, asL, asF, asK, moL_lst, ModC, DivC,
  List.getElem?_cons_zero, List.getElem?_cons_succ, List.set_cons_zero, List.set_cons_succ, List.getElem?_nil, List.length_cons, List.length_nil, List.length_map, Option.map_some, Option.bind_some, Option.isSome_some, if_true, true_and, and_true, MM.push])
local macro_rules | `(tactic| walk_at "lim") => `(tactic| repeat (first | (refine ⟨by decide, ?_⟩) | (refine ⟨by (try simp only [List.length_map, List.length_dropLast, List.length_append, List.length_cons, List.length_nil, List.length_replicate, List.length_take, List.length_drop, List.length_range]); (show _ ≤ 16777216); omega, ?_⟩)))

set_option hygiene false in
local macro_rules | `(tactic| walk_at "stp") => `(tactic| (refine dSeq_k fun k1 h1 => ?_; walk_at "dx"))
set_option hygiene false in
local macro_rules | `(tactic| walk_at "nxt") => `(tactic| (subst h1; (try dsimp only); refine dSeq_k fun k1 h1 => ?_; walk_at "dx"))
set_option hygiene false in
local macro_rules | `(tactic| walk_at "lst") => `(tactic| (subst h1; (try dsimp only); walk_at "dx"))
set_option hygiene false in
local macro_rules | `(tactic| walk_at "nxt2") => `(tactic| (subst h2; (try dsimp only); refine dSeq_k fun k2 h2 => ?_; walk_at "dx"))
set_option hygiene false in
local macro_rules | `(tactic| walk_at "stp2") => `(tactic| (refine dSeq_k fun k2 h2 => ?_; walk_at "dx"))
set_option hygiene false in
local macro_rules | `(tactic| walk_at "lst2") => `(tactic| (subst h2; (try dsimp only); walk_at "dx"))
set_option hygiene false in
local macro_rules | `(tactic| walk_at "an") => `(tactic| (walk_at "dx"; (try simp only [dgTupG, dgsCons, dgsNil, dgFld, asT, dVar, List.length_cons, List.length_nil, List.getElem?_cons_zero, ob, obL, hk, moI_ins, Fl_Answerer.circuit, Fl_Answerer.tables, Fl_Answerer.bits, Fl_Answerer.p, Fl_Answerer.steps, Fl_Answerer.layer, Fl_Answerer.round, Fl_Answerer.wide, Fl_Answerer.gates, Fl_Answerer.near, Fl_Answerer.columns, Fl_Answerer.first, Fl_Answerer.second, Fl_Answerer.share, Fl_Answerer.below, Fl_Answerer.factors, Fl_Answerer.rest, Fl_Answerer.left,
  List.getElem?_set_self, List.set_set, List.length_set, look_put, String.reduceEq, reduceIte, exists_eq_left', Option.some.injEq, true_and, and_true])))
set_option hygiene false in
local macro_rules | `(tactic| walk_at "bl") => `(tactic| (walk_at "dx"; (try simp only [dgTupG, dgsCons, dgsNil, dgFld, asT, dVar, List.length_cons, List.length_nil, List.getElem?_cons_zero, ob, obL, obh, hk, moI_ins, Fl_Bluffer.honest, Fl_Bluffer.circuit, Fl_Bluffer.bits, Fl_Bluffer.p, Fl_Bluffer.claimed, Fl_Bluffer.choices, Fl_Bluffer.used, Fl_Bluffer.claim, Fl_Bluffer.layer, Fl_Bluffer.point, Fl_Bluffer.throws, Fl_Bluffer.sent, Fl_Bluffer.abits, Fl_Bluffer.ap,
  List.getElem?_set_self, List.set_set, List.length_set, look_put, String.reduceEq, reduceIte, exists_eq_left', Option.some.injEq, true_and, and_true])))

end Dl

namespace Dl
open PySem L2
local macro_rules | `(tactic| walk_at "dl") => `(tactic| try simp only [dSeq, dSet, dRaise_one, dRaise_two, dTryAs, dXf, dIsE, List.lookup_cons, List.lookup_nil, beq_self_eq_true, Bool.false_eq_true, if_false, dOp, dUn, dVar, dC, dCB, dCons, dNil, dRet, dRetN, dIf, dB, dAnd, dOr, dNot, dDrop, dNext, dMethL, dSetIx, dAndV, dOrV, dNotV, dBlV, dIfE, dLst, dTup, dLstM, dCall, dChain, dAsg, dgName, dgTup, bindD, asT, dFor, diList, diRng1, diRng2, diEnumerate, diZip, diReversed, dLc, dLcM, dYes, wipeD, dAug, dSl, dSlT, dpN, dpS,
  oI, oI0, oB0, oAdd, oNeg, oEq, oNe, oIx, oIsN, oNotN, isNon, oShl, oApp, oPop, oPopAt, cLen, cInt, cAbs, cSum, cMax2, cMin2, cList, cIsi, tyD, asL, asF, asK, moL_lst, ModC, DivC,
  List.getElem?_cons_zero, List.getElem?_cons_succ, List.set_cons_zero, List.set_cons_succ, List.getElem?_nil, List.length_cons, List.length_nil, List.length_map, Option.map_some, Option.bind_some, Option.isSome_some, if_true, true_and, and_true, MM.push])
local macro_rules | `(tactic| walk_at "dx") => `(tactic| try simp only [eq_self_iff_true, okE_int, okE_bl, okE_non, eqD_int, eqD_bl, kq_NoneType_int, kq_NoneType_bool, kq_NoneType_list, kq_NoneType_tuple, kq_NoneType_str, kq_bool_int, kq_bool_bool, kq_bool_list, kq_bool_tuple, kq_bool_str, kq_int_int, kq_int_bool, kq_int_list, kq_int_tuple, kq_int_str, kq_str_int, kq_str_bool, kq_str_list, kq_str_tuple, kq_str_str, kq_list_int, kq_list_bool, kq_list_list, kq_list_tuple, kq_list_str, kq_tuple_int, kq_tuple_bool, kq_tuple_list, kq_tuple_tuple, kq_tuple_str, oInL, oIsB, oNotB, oEqH, oNeH, oShr, oExt, cMaxL, cMinL, cAny, cAll, cTuple, cListM, dRevL, dFld, dSetF, dAugF, dMeth, dMake, moI_ins, app_len, set_app, List.contains_cons, List.contains_nil, Bool.true_or,  Bool.true_eq_false, decide_true, not_true_eq_false, not_false_eq_true, Bool.not_true, Bool.not_false, decide_eq_true_eq, Bool.not_eq_true', decide_eq_false_iff_not, dSeq, dSet, dRaise_one, dRaise_two, dTryAs, dXf, dIsE, List.lookup_cons, List.lookup_nil, beq_self_eq_true, Bool.false_eq_true, if_false, dOp, dUn, dVar, dC, dCB, dCons, dNil, dRet, dRetN, dIf, dB, dAnd, dOr, dNot, dDrop, dNext, dMethL, dSetIx, dAndV, dOrV, dNotV, dBlV, dIfE, dLst, dTup, dLstM, dCall, dChain, dAsg, dgName, dgTup, bindD, asT, dFor, diList, diRng1, diRng2, diEnumerate, diZip, diReversed, dLc, dLcM, dYes, wipeD, dAug, dSl, dSlT, dpN, dpS,
  oI, oI0, oB0, oAdd, oNeg, oEq, oNe, oIx, oIsN, oNotN, isNon, oShl, oApp, oPop, oPopAt, cLen, cInt, cAbs, cSum, cMax2, cMin2, cList, cIsi, tyD, asL, asF, asK, moL_lst, ModC, DivC,
  List.getElem?_cons_zero, List.getElem?_cons_succ, List.set_cons_zero, List.set_cons_succ, List.getElem?_nil, List.length_cons, List.length_nil, List.length_map, Option.map_some, Option.bind_some, Option.isSome_some, if_true, true_and, and_true, MM.push])
local macro_rules | `(tactic| walk_at "lim") => `(tactic| repeat (first | (refine ⟨by decide, ?_⟩) | (refine ⟨by (try simp only [List.length_map, List.length_dropLast, List.length_append, List.length_cons, List.length_nil, List.length_replicate, List.length_take, List.length_drop, List.length_range]); (show _ ≤ 16777216); omega, ?_⟩)))

set_option hygiene false in
local macro_rules | `(tactic| walk_at "stp") => `(tactic| (refine dSeq_k fun k1 h1 => ?_; walk_at "dx"))
set_option hygiene false in
local macro_rules | `(tactic| walk_at "nxt") => `(tactic| (subst h1; (try dsimp only); refine dSeq_k fun k1 h1 => ?_; walk_at "dx"))
set_option hygiene false in
local macro_rules | `(tactic| walk_at "lst") => `(tactic| (subst h1; (try dsimp only); walk_at "dx"))
set_option hygiene false in
local macro_rules | `(tactic| walk_at "nxt2") => `(tactic| (subst h2; (try dsimp only); refine dSeq_k fun k2 h2 => ?_; walk_at "dx"))
set_option hygiene false in
local macro_rules | `(tactic| walk_at "stp2") => `(tactic| (refine dSeq_k fun k2 h2 => ?_; walk_at "dx"))
set_option hygiene false in
local macro_rules | `(tactic| walk_at "lst2") => `(tactic| (subst h2; (try dsimp only); walk_at "dx"))
set_option hygiene false in
local macro_rules | `(tactic| walk_at "an") => `(tactic| (walk_at "dx"; (try simp only [dgTupG, dgsCons, dgsNil, dgFld, asT, dVar, List.length_cons, List.length_nil, List.getElem?_cons_zero, ob, obL, hk, moI_ins, Fl_Answerer.circuit, Fl_Answerer.tables, Fl_Answerer.bits, Fl_Answerer.p, Fl_Answerer.steps, Fl_Answerer.layer, Fl_Answerer.round, Fl_Answerer.wide, Fl_Answerer.gates, Fl_Answerer.near, Fl_Answerer.columns, Fl_Answerer.first, Fl_Answerer.second, Fl_Answerer.share, Fl_Answerer.below, Fl_Answerer.factors, Fl_Answerer.rest, Fl_Answerer.left,
  List.getElem?_set_self, List.set_set, List.length_set, look_put, String.reduceEq, reduceIte, exists_eq_left', Option.some.injEq, true_and, and_true])))
set_option hygiene false in
local macro_rules | `(tactic| walk_at "bl") => `(tactic| (walk_at "dx"; (try simp only [dgTupG, dgsCons, dgsNil, dgFld, asT, dVar, List.length_cons, List.length_nil, List.getElem?_cons_zero, ob, obL, obh, hk, moI_ins, Fl_Bluffer.honest, Fl_Bluffer.circuit, Fl_Bluffer.bits, Fl_Bluffer.p, Fl_Bluffer.claimed, Fl_Bluffer.choices, Fl_Bluffer.used, Fl_Bluffer.claim, Fl_Bluffer.layer, Fl_Bluffer.point, Fl_Bluffer.throws, Fl_Bluffer.sent, Fl_Bluffer.abits, Fl_Bluffer.ap,
  List.getElem?_set_self, List.set_set, List.length_set, look_put, String.reduceEq, reduceIte, exists_eq_left', Option.some.injEq, true_and, and_true])))

/-! ### the bluffer's line -/
end Dl

namespace Dl
open PySem L2
local macro_rules | `(tactic| walk_at "dl") => `(tactic| try simp only [dSeq, dSet, dRaise_one, dRaise_two, dTryAs, dXf, dIsE, List.lookup_cons, List.lookup_nil, beq_self_eq_true, Bool.false_eq_true, if_false, dOp, dUn, dVar, dC, dCB, dCons, dNil, dRet, dRetN, dIf, dB, dAnd, dOr, dNot, dDrop, dNext, dMethL, dSetIx, dAndV, dOrV, dNotV, dBlV, dIfE, dLst, dTup, dLstM, dCall, dChain, dAsg, dgName, dgTup, bindD, asT, dFor, diList, diRng1, diRng2, diEnumerate, diZip, diReversed, dLc, dLcM, dYes, wipeD, dAug, dSl, dSlT, dpN, dpS,
  oI, oI0, oB0, oAdd, oNeg, oEq, oNe, oIx, oIsN, oNotN, isNon, oShl, oApp, oPop, oPopAt, cLen, cInt, cAbs, cSum, cMax2, cMin2, cList, cIsi, tyD, asL, asF, asK, moL_lst, ModC, DivC,
  List.getElem?_cons_zero, List.getElem?_cons_succ, List.set_cons_zero, List.set_cons_succ, List.getElem?_nil, List.length_cons, List.length_nil, List.length_map, Option.map_some, Option.bind_some, Option.isSome_some, if_true, true_and, and_true, MM.push])
local macro_rules | `(tactic| walk_at "dx") => `(tactic| try simp only [eq_self_iff_true, okE_int, okE_bl, okE_non, eqD_int, eqD_bl, kq_NoneType_int, kq_NoneType_bool, kq_NoneType_list, kq_NoneType_tuple, kq_NoneType_str, kq_bool_int, kq_bool_bool, kq_bool_list, kq_bool_tuple, kq_bool_str, kq_int_int, kq_int_bool, kq_int_list, kq_int_tuple, kq_int_str, kq_str_int, kq_str_bool, kq_str_list, kq_str_tuple, kq_str_str, kq_list_int, kq_list_bool, kq_list_list, kq_list_tuple, kq_list_str, kq_tuple_int, kq_tuple_bool, kq_tuple_list, kq_tuple_tuple, kq_tuple_str, oInL, oIsB, oNotB, oEqH, oNeH, oShr, oExt, cMaxL, cMinL, cAny, cAll, cTuple, cListM, dRevL, dFld, dSetF, dAugF, dMeth, dMake, moI_ins, app_len, set_app, List.contains_cons, List.contains_nil, Bool.true_or,  Bool.true_eq_false, decide_true, not_true_eq_false, not_false_eq_true, Bool.not_true, Bool.not_false, decide_eq_true_eq, Bool.not_eq_true', decide_eq_false_iff_not, dSeq, dSet, dRaise_one, dRaise_two, dTryAs, dXf, dIsE, List.lookup_cons, List.lookup_nil, beq_self_eq_true, Bool.false_eq_true, if_false, dOp, dUn, dVar, dC, dCB, dCons, dNil, dRet, dRetN, dIf, dB, dAnd, dOr, dNot, dDrop, dNext, dMethL, dSetIx, dAndV, dOrV, dNotV, dBlV, dIfE, dLst, dTup, dLstM, dCall, dChain, dAsg, dgName, dgTup, bindD, asT, dFor, diList, diRng1, diRng2, diEnumerate, diZip, diReversed, dLc, dLcM, dYes, wipeD, dAug, dSl, dSlT, dpN, dpS,
  oI, oI0, oB0, oAdd, oNeg, oEq, oNe, oIx, oIsN, oNotN, isNon, oShl, oApp, oPop, oPopAt, cLen, cInt, cAbs, cSum, cMax2, cMin2, cList, cIsi, tyD, asL, asF, asK, moL_lst, ModC, DivC,
  List.getElem?_cons_zero, List.getElem?_cons_succ, List.set_cons_zero, List.set_cons_succ, List.getElem?_nil, List.length_cons, List.length_nil, List.length_map, Option.map_some, Option.bind_some, Option.isSome_some, if_true, true_and, and_true, MM.push])
local macro_rules | `(tactic| walk_at "lim") => `(tactic| repeat (first | (refine ⟨by decide, ?_⟩) | (refine ⟨by (try simp only [List.length_map, List.length_dropLast, List.length_append, List.length_cons, List.length_nil, List.length_replicate, List.length_take, List.length_drop, List.length_range]); (show _ ≤ 16777216); omega, ?_⟩)))

set_option hygiene false in
local macro_rules | `(tactic| walk_at "stp") => `(tactic| (refine dSeq_k fun k1 h1 => ?_; walk_at "dx"))
set_option hygiene false in
local macro_rules | `(tactic| walk_at "nxt") => `(tactic| (subst h1; (try dsimp only); refine dSeq_k fun k1 h1 => ?_; walk_at "dx"))
set_option hygiene false in
local macro_rules | `(tactic| walk_at "lst") => `(tactic| (subst h1; (try dsimp only); walk_at "dx"))
set_option hygiene false in
local macro_rules | `(tactic| walk_at "nxt2") => `(tactic| (subst h2; (try dsimp only); refine dSeq_k fun k2 h2 => ?_; walk_at "dx"))
set_option hygiene false in
local macro_rules | `(tactic| walk_at "stp2") => `(tactic| (refine dSeq_k fun k2 h2 => ?_; walk_at "dx"))
set_option hygiene false in
local macro_rules | `(tactic| walk_at "lst2") => `(tactic| (subst h2; (try dsimp only); walk_at "dx"))

/-! ### the laws' own value of a polynomial; values at a point -/
theorem valAt_mle {T pt : List Int} {p : Int} (h : T.length = 2 ^ pt.length) : valAt T pt p = mle T pt % p := by
  have z := mle_app (p := p) pt [] T (by rw [h, List.length_nil, Nat.add_zero])
  rw [List.append_nil, mle_nil] at z
  exact z.symm
end Dl

namespace Dl
open PySem L2
local macro_rules | `(tactic| walk_at "dl") => `(tactic| try simp only [dSeq, dSet, dRaise_one, dRaise_two, dTryAs, dXf, dIsE, List.lookup_cons, List.lookup_nil, beq_self_eq_true, Bool.false_eq_true, if_false, dOp, dUn, dVar, dC, dCB, dCons, dNil, dRet, dRetN, dIf, dB, dAnd, dOr, dNot, dDrop, dNext, dMethL, dSetIx, dAndV, dOrV, dNotV, dBlV, dIfE, dLst, dTup, dLstM, dCall, dChain, dAsg, dgName, dgTup, bindD, asT, dFor, diList, diRng1, diRng2, diEnumerate, diZip, diReversed, dLc, dLcM, dYes, wipeD, dAug, dSl, dSlT, dpN, dpS,
  oI, oI0, oB0, oAdd, oNeg, oEq, oNe, oIx, oIsN, oNotN, isNon, oShl, oApp, oPop, oPopAt, cLen, cInt, cAbs, cSum, cMax2, cMin2, cList, cIsi, tyD, asL, asF, asK, moL_lst, ModC, DivC,
  List.getElem?_cons_zero, List.getElem?_cons_succ, List.set_cons_zero, List.set_cons_succ, List.getElem?_nil, List.length_cons, List.length_nil, List.length_map, Option.map_some, Option.bind_some, Option.isSome_some, if_true, true_and, and_true, MM.push])
local macro_rules | `(tactic| walk_at "dx") => `(tactic| try simp only [eq_self_iff_true, okE_int, okE_bl, okE_non, eqD_int, eqD_bl, kq_NoneType_int, kq_NoneType_bool, kq_NoneType_list, kq_NoneType_tuple, kq_NoneType_str, kq_bool_int, kq_bool_bool, kq_bool_list, kq_bool_tuple, kq_bool_str, kq_int_int, kq_int_bool, kq_int_list, kq_int_tuple, kq_int_str, kq_str_int, kq_str_bool, kq_str_list, kq_str_tuple, kq_str_str, kq_list_int, kq_list_bool, kq_list_list, kq_list_tuple, kq_list_str, kq_tuple_int, kq_tuple_bool, kq_tuple_list, kq_tuple_tuple, kq_tuple_str, oInL, oIsB, oNotB, oEqH, oNeH, oShr, oExt, cMaxL, cMinL, cAny, cAll, cTuple, cListM, dRevL, dFld, dSetF, dAugF, dMeth, dMake, moI_ins, app_len, set_app, List.contains_cons, List.contains_nil, Bool.true_or,  Bool.true_eq_false, decide_true, not_true_eq_false, not_false_eq_true, Bool.not_true, Bool.not_false, decide_eq_true_eq, Bool.not_eq_true', decide_eq_false_iff_not, dSeq, dSet, dRaise_one, dRaise_two, dTryAs, dXf, dIsE, List.lookup_cons, List.lookup_nil, beq_self_eq_true, Bool.false_eq_true, if_false, dOp, dUn, dVar, dC, dCB, dCons, dNil, dRet, dRetN, dIf, dB, dAnd, dOr, dNot, dDrop, dNext, dMethL, dSetIx, dAndV, dOrV, dNotV, dBlV, dIfE, dLst, dTup, dLstM, dCall, dChain, dAsg, dgName, dgTup, bindD, asT, dFor, diList, diRng1, diRng2, diEnumerate, diZip, diReversed, dLc, dLcM, dYes, wipeD, dAug, dSl, dSlT, dpN, dpS,
  oI, oI0, oB0, oAdd, oNeg, oEq, oNe, oIx, oIsN, oNotN, isNon, oShl, oApp, oPop, oPopAt, cLen, cInt, cAbs, cSum, cMax2, cMin2, cList, cIsi, tyD, asL, asF, asK, moL_lst, ModC, DivC,
  List.getElem?_cons_zero, List.getElem?_cons_succ, List.set_cons_zero, List.set_cons_succ, List.getElem?_nil, List.length_cons, List.length_nil, List.length_map, Option.map_some, Option.bind_some, Option.isSome_some, if_true, true_and, and_true, MM.push])
local macro_rules | `(tactic| walk_at "lim") => `(tactic| repeat (first | (refine ⟨by decide, ?_⟩) | (refine ⟨by (try simp only [List.length_map, List.length_dropLast, List.length_append, List.length_cons, List.length_nil, List.length_replicate, List.length_take, List.length_drop, List.length_range]); (show _ ≤ 16777216); omega, ?_⟩)))

set_option hygiene false in
local macro_rules | `(tactic| walk_at "stp") => `(tactic| (refine dSeq_k fun k1 h1 => ?_; walk_at "dx"))
set_option hygiene false in
local macro_rules | `(tactic| walk_at "nxt") => `(tactic| (subst h1; (try dsimp only); refine dSeq_k fun k1 h1 => ?_; walk_at "dx"))
set_option hygiene false in
local macro_rules | `(tactic| walk_at "lst") => `(tactic| (subst h1; (try dsimp only); walk_at "dx"))
set_option hygiene false in
local macro_rules | `(tactic| walk_at "nxt2") => `(tactic| (subst h2; (try dsimp only); refine dSeq_k fun k2 h2 => ?_; walk_at "dx"))
set_option hygiene false in
local macro_rules | `(tactic| walk_at "stp2") => `(tactic| (refine dSeq_k fun k2 h2 => ?_; walk_at "dx"))
set_option hygiene false in
local macro_rules | `(tactic| walk_at "lst2") => `(tactic| (subst h2; (try dsimp only); walk_at "dx"))

/-! ### differences: a polynomial of n values goes on by sums alone -/
theorem gi_mapr {F : Nat → Int} {n j : Nat} (h : j < n) : gi ((List.range n).map F) (j : Nat) = F j := by
  rw [gi_nat, List.getD_eq_getElem?_getD, List.getElem?_map, List.getElem?_range h]; rfl
/-! ### the laws with larger numbers: draws -/
def C__law_number__61 : DC := fun ds m Φ _ => ∃ p : Int, ds = [.st 1, .int p] ∧ m.s = 1 ∧ (0 < p ∧ p < 2 ^ 40) ∧ ∀ r : Int, 0 ≤ r → r < p → Φ (.int r) m
def W__law_number__61 : DS := dRet (dOp oMod (dCB cInt (dCons (dOp oAdd (dOp oMul (dCall 2 C_take (dCons (dVar 0) (dCons (dC (.int 59)) (dNil)))) (dC (.int 59))) (dCall 2 C_take (dCons (dVar 0) (dCons (dC (.int 59)) (dNil))))) (dNil))) (dVar 1))
theorem rd__law_number__61 : ∀ ds m Φ Ψ, ds.length = 2 → C__law_number__61 ds m Φ Ψ → W__law_number__61 { nx := fun _ m' => Φ .non m', rt := Φ } (fun _ => Ψ) (ds.map some ++ List.replicate (2 - ds.length) none) m := by
  intro ds m Φ Ψ _ h
  obtain ⟨p, rfl, hs, ⟨p0, p1⟩, q⟩ := h
  change W__law_number__61 _ _ [some (.st 1), some (.int p)] m
  unfold W__law_number__61
  walk_at "dx"
  refine ⟨59, rfl, hs, by decide, by decide, fun a a0 a1 => ?_⟩
  walk_at "dx"
  refine ⟨?_, 59, rfl, hs, by decide, by decide, fun b b0 b1 => ?_⟩
  · exact mulR (by decide) (by decide)
  walk_at "dx"
  refine ⟨by omega, ?_⟩
  exact q _ (Int.emod_nonneg _ (by omega)) (Int.emod_lt_of_pos _ p0)
/-! ### all values of a polynomial -/
end Dl

namespace Dl
open PySem L2
/-! ### objects of the class Bluffer or of a class under it -/
def blC (cn : String) : Prop := cn = "Bluffer" ∨ cn = "Guesser"
class Fl_B1 (fl : String → List String) (cn : String) : Prop where
  honest : (fl "honest").contains cn = true
  circuit : (fl "circuit").contains cn = true
  bits : (fl "bits").contains cn = true
  p : (fl "p").contains cn = true
  claimed : (fl "claimed").contains cn = true
  choices : (fl "choices").contains cn = true
  used : (fl "used").contains cn = true
  claim : (fl "claim").contains cn = true
  layer : (fl "layer").contains cn = true
  point : (fl "point").contains cn = true
  throws : (fl "throws").contains cn = true
  sent : (fl "sent").contains cn = true
  abits : (fl "bits").contains "Answerer" = true
  ap : (fl "p").contains "Answerer" = true
class Fl_BG (fl : String → List String) : Prop where
  honest1 : (fl "honest").contains "Bluffer" = true
  honest2 : (fl "honest").contains "Guesser" = true
  circuit1 : (fl "circuit").contains "Bluffer" = true
  circuit2 : (fl "circuit").contains "Guesser" = true
  bits1 : (fl "bits").contains "Bluffer" = true
  bits2 : (fl "bits").contains "Guesser" = true
  p1 : (fl "p").contains "Bluffer" = true
  p2 : (fl "p").contains "Guesser" = true
  claimed1 : (fl "claimed").contains "Bluffer" = true
  claimed2 : (fl "claimed").contains "Guesser" = true
  choices1 : (fl "choices").contains "Bluffer" = true
  choices2 : (fl "choices").contains "Guesser" = true
  used1 : (fl "used").contains "Bluffer" = true
  used2 : (fl "used").contains "Guesser" = true
  claim1 : (fl "claim").contains "Bluffer" = true
  claim2 : (fl "claim").contains "Guesser" = true
  layer1 : (fl "layer").contains "Bluffer" = true
  layer2 : (fl "layer").contains "Guesser" = true
  point1 : (fl "point").contains "Bluffer" = true
  point2 : (fl "point").contains "Guesser" = true
  throws1 : (fl "throws").contains "Bluffer" = true
  throws2 : (fl "throws").contains "Guesser" = true
  sent1 : (fl "sent").contains "Bluffer" = true
  sent2 : (fl "sent").contains "Guesser" = true
  abits : (fl "bits").contains "Answerer" = true
  ap : (fl "p").contains "Answerer" = true
theorem Fl_BG.of {fl : String → List String} {cn : String} (F : Fl_BG fl) (h : blC cn) : Fl_B1 fl cn := by
  rcases h with rfl | rfl
  · exact ⟨F.honest1, F.circuit1, F.bits1, F.p1, F.claimed1, F.choices1, F.used1, F.claim1, F.layer1, F.point1, F.throws1, F.sent1, F.abits, F.ap⟩
  · exact ⟨F.honest2, F.circuit2, F.bits2, F.p2, F.claimed2, F.choices2, F.used2, F.claim2, F.layer2, F.point2, F.throws2, F.sent2, F.abits, F.ap⟩
local macro_rules | `(tactic| walk_at "dl") => `(tactic| try simp only [dSeq, dSet, dRaise_one, dRaise_two, dTryAs, dXf, dIsE, List.lookup_cons, List.lookup_nil, beq_self_eq_true, Bool.false_eq_true, if_false, dOp, dUn, dVar, dC, dCB, dCons, dNil, dRet, dRetN, dIf, dB, dAnd, dOr, dNot, dDrop, dNext, dMethL, dSetIx, dAndV, dOrV, dNotV, dBlV, dIfE, dLst, dTup, dLstM, dCall, dChain, dAsg, dgName, dgTup, bindD, asT, dFor, diList, diRng1, diRng2, diEnumerate, diZip, diReversed, dLc, dLcM, dYes, wipeD, dAug, dSl, dSlT, dpN, dpS,
  oI, oI0, oB0, oAdd, oNeg, oEq, oNe, oIx, oIsN, oNotN, isNon, oShl, oApp, oPop, oPopAt, cLen, cInt, cAbs, cSum, cMax2, cMin2, cList, cIsi, tyD, asL, asF, asK, moL_lst, ModC, DivC,
  List.getElem?_cons_zero, List.getElem?_cons_succ, List.set_cons_zero, List.set_cons_succ, List.getElem?_nil, List.length_cons, List.length_nil, List.length_map, Option.map_some, Option.bind_some, Option.isSome_some, if_true, true_and, and_true, MM.push])
local macro_rules | `(tactic| walk_at "dx") => `(tactic| try simp only [eq_self_iff_true, okE_int, okE_bl, okE_non, eqD_int, eqD_bl, kq_NoneType_int, kq_NoneType_bool, kq_NoneType_list, kq_NoneType_tuple, kq_NoneType_str, kq_bool_int, kq_bool_bool, kq_bool_list, kq_bool_tuple, kq_bool_str, kq_int_int, kq_int_bool, kq_int_list, kq_int_tuple, kq_int_str, kq_str_int, kq_str_bool, kq_str_list, kq_str_tuple, kq_str_str, kq_list_int, kq_list_bool, kq_list_list, kq_list_tuple, kq_list_str, kq_tuple_int, kq_tuple_bool, kq_tuple_list, kq_tuple_tuple, kq_tuple_str, oInL, oIsB, oNotB, oEqH, oNeH, oShr, oExt, cMaxL, cMinL, cAny, cAll, cTuple, cListM, dRevL, dFld, dSetF, dAugF, dMeth, dMake, moI_ins, app_len, set_app, List.contains_cons, List.contains_nil, Bool.true_or,  Bool.true_eq_false, decide_true, not_true_eq_false, not_false_eq_true, Bool.not_true, Bool.not_false, decide_eq_true_eq, Bool.not_eq_true', decide_eq_false_iff_not, dSeq, dSet, dRaise_one, dRaise_two, dTryAs, dXf, dIsE, List.lookup_cons, List.lookup_nil, beq_self_eq_true, Bool.false_eq_true, if_false, dOp, dUn, dVar, dC, dCB, dCons, dNil, dRet, dRetN, dIf, dB, dAnd, dOr, dNot, dDrop, dNext, dMethL, dSetIx, dAndV, dOrV, dNotV, dBlV, dIfE, dLst, dTup, dLstM, dCall, dChain, dAsg, dgName, dgTup, bindD, asT, dFor, diList, diRng1, diRng2, diEnumerate, diZip, diReversed, dLc, dLcM, dYes, wipeD, dAug, dSl, dSlT, dpN, dpS,
  oI, oI0, oB0, oAdd, oNeg, oEq, oNe, oIx, oIsN, oNotN, isNon, oShl, oApp, oPop, oPopAt, cLen, cInt, cAbs, cSum, cMax2, cMin2, cList, cIsi, tyD, asL, asF, asK, moL_lst, ModC, DivC,
  List.getElem?_cons_zero, List.getElem?_cons_succ, List.set_cons_zero, List.set_cons_succ, List.getElem?_nil, List.length_cons, List.length_nil, List.length_map, Option.map_some, Option.bind_some, Option.isSome_some, if_true, true_and, and_true, MM.push])
local macro_rules | `(tactic| walk_at "lim") => `(tactic| repeat (first | (refine ⟨by decide, ?_⟩) | (refine ⟨by (try simp only [List.length_map, List.length_dropLast, List.length_append, List.length_cons, List.length_nil, List.length_replicate, List.length_take, List.length_drop, List.length_range]); (show _ ≤ 16777216); omega, ?_⟩)))

set_option hygiene false in
local macro_rules | `(tactic| walk_at "stp") => `(tactic| (refine dSeq_k fun k1 h1 => ?_; walk_at "dx"))
set_option hygiene false in
local macro_rules | `(tactic| walk_at "nxt") => `(tactic| (subst h1; (try dsimp only); refine dSeq_k fun k1 h1 => ?_; walk_at "dx"))
set_option hygiene false in
local macro_rules | `(tactic| walk_at "lst") => `(tactic| (subst h1; (try dsimp only); walk_at "dx"))
set_option hygiene false in
local macro_rules | `(tactic| walk_at "nxt2") => `(tactic| (subst h2; (try dsimp only); refine dSeq_k fun k2 h2 => ?_; walk_at "dx"))
set_option hygiene false in
local macro_rules | `(tactic| walk_at "stp2") => `(tactic| (refine dSeq_k fun k2 h2 => ?_; walk_at "dx"))
set_option hygiene false in
local macro_rules | `(tactic| walk_at "lst2") => `(tactic| (subst h2; (try dsimp only); walk_at "dx"))
set_option hygiene false in
local macro_rules | `(tactic| walk_at "an") => `(tactic| (walk_at "dx"; (try simp only [dgTupG, dgsCons, dgsNil, dgFld, asT, dVar, List.length_cons, List.length_nil, List.getElem?_cons_zero, ob, obL, hk, moI_ins, Fl_Answerer.circuit, Fl_Answerer.tables, Fl_Answerer.bits, Fl_Answerer.p, Fl_Answerer.steps, Fl_Answerer.layer, Fl_Answerer.round, Fl_Answerer.wide, Fl_Answerer.gates, Fl_Answerer.near, Fl_Answerer.columns, Fl_Answerer.first, Fl_Answerer.second, Fl_Answerer.share, Fl_Answerer.below, Fl_Answerer.factors, Fl_Answerer.rest, Fl_Answerer.left,
  List.getElem?_set_self, List.set_set, List.length_set, look_put, String.reduceEq, reduceIte, exists_eq_left', Option.some.injEq, true_and, and_true])))
set_option hygiene false in
local macro_rules | `(tactic| walk_at "bl") => `(tactic| (walk_at "dx"; (try simp only [dgTupG, dgsCons, dgsNil, dgFld, asT, dVar, List.length_cons, List.length_nil, List.getElem?_cons_zero, ob, obL, obh, hk, moI_ins, Fl_B1.honest, Fl_B1.circuit, Fl_B1.bits, Fl_B1.p, Fl_B1.claimed, Fl_B1.choices, Fl_B1.used, Fl_B1.claim, Fl_B1.layer, Fl_B1.point, Fl_B1.throws, Fl_B1.sent, Fl_B1.abits, Fl_B1.ap,
  List.getElem?_set_self, List.set_set, List.length_set, look_put, String.reduceEq, reduceIte, exists_eq_left', Option.some.injEq, true_and, and_true])))

end Dl

namespace Dl
open PySem L2
local macro_rules | `(tactic| walk_at "dl") => `(tactic| try simp only [dSeq, dSet, dRaise_one, dRaise_two, dTryAs, dXf, dIsE, List.lookup_cons, List.lookup_nil, beq_self_eq_true, Bool.false_eq_true, if_false, dOp, dUn, dVar, dC, dCB, dCons, dNil, dRet, dRetN, dIf, dB, dAnd, dOr, dNot, dDrop, dNext, dMethL, dSetIx, dAndV, dOrV, dNotV, dBlV, dIfE, dLst, dTup, dLstM, dCall, dChain, dAsg, dgName, dgTup, bindD, asT, dFor, diList, diRng1, diRng2, diEnumerate, diZip, diReversed, dLc, dLcM, dYes, wipeD, dAug, dSl, dSlT, dpN, dpS,
  oI, oI0, oB0, oAdd, oNeg, oEq, oNe, oIx, oIsN, oNotN, isNon, oShl, oApp, oPop, oPopAt, cLen, cInt, cAbs, cSum, cMax2, cMin2, cList, cIsi, tyD, asL, asF, asK, moL_lst, ModC, DivC,
  List.getElem?_cons_zero, List.getElem?_cons_succ, List.set_cons_zero, List.set_cons_succ, List.getElem?_nil, List.length_cons, List.length_nil, List.length_map, Option.map_some, Option.bind_some, Option.isSome_some, if_true, true_and, and_true, MM.push])
local macro_rules | `(tactic| walk_at "dx") => `(tactic| try simp only [eq_self_iff_true, okE_int, okE_bl, okE_non, eqD_int, eqD_bl, kq_NoneType_int, kq_NoneType_bool, kq_NoneType_list, kq_NoneType_tuple, kq_NoneType_str, kq_bool_int, kq_bool_bool, kq_bool_list, kq_bool_tuple, kq_bool_str, kq_int_int, kq_int_bool, kq_int_list, kq_int_tuple, kq_int_str, kq_str_int, kq_str_bool, kq_str_list, kq_str_tuple, kq_str_str, kq_list_int, kq_list_bool, kq_list_list, kq_list_tuple, kq_list_str, kq_tuple_int, kq_tuple_bool, kq_tuple_list, kq_tuple_tuple, kq_tuple_str, oInL, oIsB, oNotB, oEqH, oNeH, oShr, oExt, cMaxL, cMinL, cAny, cAll, cTuple, cListM, dRevL, dFld, dSetF, dAugF, dMeth, dMake, moI_ins, app_len, set_app, List.contains_cons, List.contains_nil, Bool.true_or,  Bool.true_eq_false, decide_true, not_true_eq_false, not_false_eq_true, Bool.not_true, Bool.not_false, decide_eq_true_eq, Bool.not_eq_true', decide_eq_false_iff_not, dSeq, dSet, dRaise_one, dRaise_two, dTryAs, dXf, dIsE, List.lookup_cons, List.lookup_nil, beq_self_eq_true, Bool.false_eq_true, if_false, dOp, dUn, dVar, dC, dCB, dCons, dNil, dRet, dRetN, dIf, dB, dAnd, dOr, dNot, dDrop, dNext, dMethL, dSetIx, dAndV, dOrV, dNotV, dBlV, dIfE, dLst, dTup, dLstM, dCall, dChain, dAsg, dgName, dgTup, bindD, asT, dFor, diList, diRng1, diRng2, diEnumerate, diZip, diReversed, dLc, dLcM, dYes, wipeD, dAug, dSl, dSlT, dpN, dpS,
  oI, oI0, oB0, oAdd, oNeg, oEq, oNe, oIx, oIsN, oNotN, isNon, oShl, oApp, oPop, oPopAt, cLen, cInt, cAbs, cSum, cMax2, cMin2, cList, cIsi, tyD, asL, asF, asK, moL_lst, ModC, DivC,
  List.getElem?_cons_zero, List.getElem?_cons_succ, List.set_cons_zero, List.set_cons_succ, List.getElem?_nil, List.length_cons, List.length_nil, List.length_map, Option.map_some, Option.bind_some, Option.isSome_some, if_true, true_and, and_true, MM.push])
local macro_rules | `(tactic| walk_at "lim") => `(tactic| repeat (first | (refine ⟨by decide, ?_⟩) | (refine ⟨by (try simp only [List.length_map, List.length_dropLast, List.length_append, List.length_cons, List.length_nil, List.length_replicate, List.length_take, List.length_drop, List.length_range]); (show _ ≤ 16777216); omega, ?_⟩)))

set_option hygiene false in
local macro_rules | `(tactic| walk_at "stp") => `(tactic| (refine dSeq_k fun k1 h1 => ?_; walk_at "dx"))
set_option hygiene false in
local macro_rules | `(tactic| walk_at "nxt") => `(tactic| (subst h1; (try dsimp only); refine dSeq_k fun k1 h1 => ?_; walk_at "dx"))
set_option hygiene false in
local macro_rules | `(tactic| walk_at "lst") => `(tactic| (subst h1; (try dsimp only); walk_at "dx"))
set_option hygiene false in
local macro_rules | `(tactic| walk_at "nxt2") => `(tactic| (subst h2; (try dsimp only); refine dSeq_k fun k2 h2 => ?_; walk_at "dx"))
set_option hygiene false in
local macro_rules | `(tactic| walk_at "stp2") => `(tactic| (refine dSeq_k fun k2 h2 => ?_; walk_at "dx"))
set_option hygiene false in
local macro_rules | `(tactic| walk_at "lst2") => `(tactic| (subst h2; (try dsimp only); walk_at "dx"))
set_option hygiene false in
local macro_rules | `(tactic| walk_at "an") => `(tactic| (walk_at "dx"; (try simp only [dgTupG, dgsCons, dgsNil, dgFld, asT, dVar, List.length_cons, List.length_nil, List.getElem?_cons_zero, ob, obL, hk, moI_ins, Fl_Answerer.circuit, Fl_Answerer.tables, Fl_Answerer.bits, Fl_Answerer.p, Fl_Answerer.steps, Fl_Answerer.layer, Fl_Answerer.round, Fl_Answerer.wide, Fl_Answerer.gates, Fl_Answerer.near, Fl_Answerer.columns, Fl_Answerer.first, Fl_Answerer.second, Fl_Answerer.share, Fl_Answerer.below, Fl_Answerer.factors, Fl_Answerer.rest, Fl_Answerer.left,
  List.getElem?_set_self, List.set_set, List.length_set, look_put, String.reduceEq, reduceIte, exists_eq_left', Option.some.injEq, true_and, and_true])))
set_option hygiene false in
local macro_rules | `(tactic| walk_at "bl") => `(tactic| (walk_at "dx"; (try simp only [dgTupG, dgsCons, dgsNil, dgFld, asT, dVar, List.length_cons, List.length_nil, List.getElem?_cons_zero, ob, obL, obh, hk, moI_ins, Fl_B1.honest, Fl_B1.circuit, Fl_B1.bits, Fl_B1.p, Fl_B1.claimed, Fl_B1.choices, Fl_B1.used, Fl_B1.claim, Fl_B1.layer, Fl_B1.point, Fl_B1.throws, Fl_B1.sent, Fl_B1.abits, Fl_B1.ap,
  List.getElem?_set_self, List.set_set, List.length_set, look_put, String.reduceEq, reduceIte, exists_eq_left', Option.some.injEq, true_and, and_true])))

/-! ### hopeful polynomials; the guesser -/
def prV (gs : List Int) (p x : Int) : Int := gs.foldl (fun r g => r * (x - g) % p) 1
def whole (gs : List Int) (p : Int) : Int := (prV gs p 0 + prV gs p 1) % p
/-! ### the guesser's polynomials -/
end Dl

namespace Dl
open PySem L2
/-! ### several claims about one table, joined -/
def mixV (ns : List Int) (x p : Int) : Int := ns.foldr (fun a r => (r * x + a) % p) 0 % p
theorem mixV_pev {x p : Int} : ∀ ns : List Int, mixV ns x p = pev ns x % p
  | [] => rfl
  | a :: ns => by
    have ih := mixV_pev (x := x) (p := p) ns
    show (ns.foldr (fun a r => (r * x + a) % p) 0 * x + a) % p % p = (a + x * pev ns x) % p
    rw [Int.emod_emod_of_dvd _ (Int.dvd_refl _)]
    have z : Cg p (ns.foldr (fun a r => (r * x + a) % p) 0) (pev ns x) := ih
    exact (Cg.add (z.mul .refl) .refl).trans (.of_eq (by rw [Int.mul_comm]; omega))
def oiD : Option Int → D
  | none => .non
  | some x => .int x
def ohD : Option Nat → D
  | none => .non
  | some k => .hnd k
def onP : Option (List Int × Int) → D
  | none => .non
  | some x => .lst (x.1.map D.int)
def onC : Option (List Int × Int) → D
  | none => .non
  | some x => .int x.2
def joinF (p : Int) (pts : List (List Int)) (cl : List Int) (mix : Option Int) (ks : Option Nat) (nx : Option (List Int × Int)) : List (String × D) :=
  [("p", .int p), ("points", .lst (pts.map intL)), ("claims", .lst (cl.map D.int)), ("mix", oiD mix), ("sums", ohD ks), ("next_point", onP nx), ("next_claim", onC nx)]
def onL : Option (List Int) → D
  | none => .non
  | some x => .lst (x.map D.int)
def jaF (p : Int) (tab : List Int) (pts : List (List Int)) (near : Option (List Int)) : List (String × D) :=
  [("p", .int p), ("table", .lst (tab.map D.int)), ("points", .lst (pts.map intL)), ("near", onL near)]
section
variable {p : Int} {pts : List (List Int)} {cl degs tab : List Int} {mix : Option Int} {ks : Option Nat} {nx : Option (List Int × Int)} {scl : Int} {j : Nat} {sent : Option (List Int)} {near : Option (List Int)}
theorem lkJ_p : List.lookup "p" (joinF p pts cl mix ks nx) = some (.int p) := rfl
theorem lkJ_points : List.lookup "points" (joinF p pts cl mix ks nx) = some (.lst (pts.map intL)) := rfl
theorem lkJ_claims : List.lookup "claims" (joinF p pts cl mix ks nx) = some (.lst (cl.map D.int)) := rfl
theorem lkJ_mix : List.lookup "mix" (joinF p pts cl mix ks nx) = some (oiD mix) := rfl
theorem lkJ_sums : List.lookup "sums" (joinF p pts cl mix ks nx) = some (ohD ks) := rfl
theorem lkJ_np : List.lookup "next_point" (joinF p pts cl mix ks nx) = some (onP nx) := rfl
theorem lkJ_nc : List.lookup "next_claim" (joinF p pts cl mix ks nx) = some (onC nx) := rfl
theorem lkS_sent : List.lookup "sent" (askF p scl degs j sent) = some (sentD sent) := rfl
theorem lkS_throws : List.lookup "throws" (askF p scl degs j sent) = some (.hnd j) := rfl
theorem lkS_claim : List.lookup "claim" (askF p scl degs j sent) = some (.int scl) := rfl
theorem lkA_p : List.lookup "p" (jaF p tab pts near) = some (.int p) := rfl
theorem lkA_table : List.lookup "table" (jaF p tab pts near) = some (.lst (tab.map D.int)) := rfl
theorem lkA_points : List.lookup "points" (jaF p tab pts near) = some (.lst (pts.map intL)) := rfl
theorem lkA_near : List.lookup "near" (jaF p tab pts near) = some (onL near) := rfl
end
class Fl_Join (fl : String → List String) : Prop where
  p : (fl "p").contains "Join" = true
  points : (fl "points").contains "Join" = true
  claims : (fl "claims").contains "Join" = true
  mix : (fl "mix").contains "Join" = true
  sums : (fl "sums").contains "Join" = true
  np : (fl "next_point").contains "Join" = true
  nc : (fl "next_claim").contains "Join" = true
  sent : (fl "sent").contains "SumAsker" = true
  throws : (fl "throws").contains "SumAsker" = true
  claim : (fl "claim").contains "SumAsker" = true
class Fl_JoinAnswerer (fl : String → List String) : Prop where
  p : (fl "p").contains "JoinAnswerer" = true
  table : (fl "table").contains "JoinAnswerer" = true
  points : (fl "points").contains "JoinAnswerer" = true
  near : (fl "near").contains "JoinAnswerer" = true
local macro_rules | `(tactic| walk_at "dl") => `(tactic| try simp only [dSeq, dSet, dRaise_one, dRaise_two, dTryAs, dXf, dIsE, List.lookup_cons, List.lookup_nil, beq_self_eq_true, Bool.false_eq_true, if_false, dOp, dUn, dVar, dC, dCB, dCons, dNil, dRet, dRetN, dIf, dB, dAnd, dOr, dNot, dDrop, dNext, dMethL, dSetIx, dAndV, dOrV, dNotV, dBlV, dIfE, dLst, dTup, dLstM, dCall, dChain, dAsg, dgName, dgTup, bindD, asT, dFor, diList, diRng1, diRng2, diEnumerate, diZip, diReversed, dLc, dLcM, dYes, wipeD, dAug, dSl, dSlT, dpN, dpS,
  oI, oI0, oB0, oAdd, oNeg, oEq, oNe, oIx, oIsN, oNotN, isNon, oShl, oApp, oPop, oPopAt, cLen, cInt, cAbs, cSum, cMax2, cMin2, cList, cIsi, tyD, asL, asF, asK, moL_lst, ModC, DivC,
  List.getElem?_cons_zero, List.getElem?_cons_succ, List.set_cons_zero, List.set_cons_succ, List.getElem?_nil, List.length_cons, List.length_nil, List.length_map, Option.map_some, Option.bind_some, Option.isSome_some, if_true, true_and, and_true, MM.push])
local macro_rules | `(tactic| walk_at "dx") => `(tactic| try simp only [eq_self_iff_true, okE_int, okE_bl, okE_non, eqD_int, eqD_bl, kq_NoneType_int, kq_NoneType_bool, kq_NoneType_list, kq_NoneType_tuple, kq_NoneType_str, kq_bool_int, kq_bool_bool, kq_bool_list, kq_bool_tuple, kq_bool_str, kq_int_int, kq_int_bool, kq_int_list, kq_int_tuple, kq_int_str, kq_str_int, kq_str_bool, kq_str_list, kq_str_tuple, kq_str_str, kq_list_int, kq_list_bool, kq_list_list, kq_list_tuple, kq_list_str, kq_tuple_int, kq_tuple_bool, kq_tuple_list, kq_tuple_tuple, kq_tuple_str, oInL, oIsB, oNotB, oEqH, oNeH, oShr, oExt, cMaxL, cMinL, cAny, cAll, cTuple, cListM, dRevL, dFld, dSetF, dAugF, dMeth, dMake, moI_ins, app_len, set_app, List.contains_cons, List.contains_nil, Bool.true_or,  Bool.true_eq_false, decide_true, not_true_eq_false, not_false_eq_true, Bool.not_true, Bool.not_false, decide_eq_true_eq, Bool.not_eq_true', decide_eq_false_iff_not, dSeq, dSet, dRaise_one, dRaise_two, dTryAs, dXf, dIsE, List.lookup_cons, List.lookup_nil, beq_self_eq_true, Bool.false_eq_true, if_false, dOp, dUn, dVar, dC, dCB, dCons, dNil, dRet, dRetN, dIf, dB, dAnd, dOr, dNot, dDrop, dNext, dMethL, dSetIx, dAndV, dOrV, dNotV, dBlV, dIfE, dLst, dTup, dLstM, dCall, dChain, dAsg, dgName, dgTup, bindD, asT, dFor, diList, diRng1, diRng2, diEnumerate, diZip, diReversed, dLc, dLcM, dYes, wipeD, dAug, dSl, dSlT, dpN, dpS,
  oI, oI0, oB0, oAdd, oNeg, oEq, oNe, oIx, oIsN, oNotN, isNon, oShl, oApp, oPop, oPopAt, cLen, cInt, cAbs, cSum, cMax2, cMin2, cList, cIsi, tyD, asL, asF, asK, moL_lst, ModC, DivC,
  List.getElem?_cons_zero, List.getElem?_cons_succ, List.set_cons_zero, List.set_cons_succ, List.getElem?_nil, List.length_cons, List.length_nil, List.length_map, Option.map_some, Option.bind_some, Option.isSome_some, if_true, true_and, and_true, MM.push])
local macro_rules | `(tactic| walk_at "lim") => `(tactic| repeat (first | (refine ⟨by decide, ?_⟩) | (refine ⟨by (try simp only [List.length_map, List.length_dropLast, List.length_append, List.length_cons, List.length_nil, List.length_replicate, List.length_take, List.length_drop, List.length_range]); (show _ ≤ 16777216); omega, ?_⟩)))

set_option hygiene false in
local macro_rules | `(tactic| walk_at "stp") => `(tactic| (refine dSeq_k fun k1 h1 => ?_; walk_at "dx"))
set_option hygiene false in
local macro_rules | `(tactic| walk_at "nxt") => `(tactic| (subst h1; (try dsimp only); refine dSeq_k fun k1 h1 => ?_; walk_at "dx"))
set_option hygiene false in
local macro_rules | `(tactic| walk_at "lst") => `(tactic| (subst h1; (try dsimp only); walk_at "dx"))
set_option hygiene false in
local macro_rules | `(tactic| walk_at "nxt2") => `(tactic| (subst h2; (try dsimp only); refine dSeq_k fun k2 h2 => ?_; walk_at "dx"))
set_option hygiene false in
local macro_rules | `(tactic| walk_at "stp2") => `(tactic| (refine dSeq_k fun k2 h2 => ?_; walk_at "dx"))
set_option hygiene false in
local macro_rules | `(tactic| walk_at "lst2") => `(tactic| (subst h2; (try dsimp only); walk_at "dx"))

set_option hygiene false in
local macro_rules | `(tactic| walk_at "jn") => `(tactic| (walk_at "dx"; (try simp only [ob, obs, oiD, ohD, onP, onC, onL, sentD, moI_ins, lkJ_p, lkJ_points, lkJ_claims, lkJ_mix, lkJ_sums, lkJ_np, lkJ_nc, lkS_sent, lkS_throws, lkS_claim, lkA_p, lkA_table, lkA_points, lkA_near, Fl_Join.p, Fl_Join.points, Fl_Join.claims, Fl_Join.mix, Fl_Join.sums, Fl_Join.np, Fl_Join.nc, Fl_Join.sent, Fl_Join.throws, Fl_Join.claim, Fl_JoinAnswerer.p, Fl_JoinAnswerer.table, Fl_JoinAnswerer.points, Fl_JoinAnswerer.near, exists_eq_left', Option.some.injEq, true_and, and_true])))
set_option hygiene false in
local macro_rules | `(tactic| walk_at "jg") => `(tactic| (walk_at "dx"; (try simp only [ob, g1, g2, moI_ins, lkJ_p, lkJ_points, lkJ_claims, lkJ_mix, lkJ_sums, lkJ_np, lkJ_nc, lkS_sent, lkS_throws, lkS_claim, lkA_p, lkA_table, lkA_points, lkA_near, Fl_Join.p, Fl_Join.points, Fl_Join.claims, Fl_Join.mix, Fl_Join.sums, Fl_Join.np, Fl_Join.nc, Fl_Join.sent, Fl_Join.throws, Fl_Join.claim, Fl_JoinAnswerer.p, Fl_JoinAnswerer.table, Fl_JoinAnswerer.points, Fl_JoinAnswerer.near, exists_eq_left', Option.some.injEq, true_and, and_true])))

def C_mixed : DC := fun ds m Φ _ => ∃ (ns : List Int) (x p : Int), ds = [.lst (ns.map D.int), .int x, .int p] ∧ PM p ∧ (0 ≤ x ∧ x < p) ∧ Φ (.int (mixV ns x p)) m
def W_mixed : DS := dSeq (dSet 3 (dC (.int 0))) (dSeq (dFor (diReversed (dCons (dVar 0) (dNil))) (dgName 4) (dSet 3 (dOp oMod (dOp oAdd (dOp oMul (dVar 3) (dVar 1)) (dVar 4)) (dVar 2)))) (dRet (dOp oMod (dVar 3) (dVar 2))))
theorem rd_mixed : ∀ ds m Φ Ψ, ds.length = 3 → C_mixed ds m Φ Ψ → W_mixed { nx := fun _ m' => Φ .non m', rt := Φ } (fun _ => Ψ) (ds.map some ++ List.replicate (5 - ds.length) none) m := by
  intro ds m Φ Ψ _ h
  obtain ⟨ns, x, p, rfl, hp, hx, q⟩ := h
  have hp1 := hp.1
  have hp2 := hp.2
  change W_mixed _ _ [some (.lst (ns.map D.int)), some (.int x), some (.int p), none, none] m
  unfold W_mixed
  walk_at "stp"
  walk_at "nxt"
  rw [← List.map_reverse]
  refine forW_map (inj := D.int) (fun r ρ m' => ∃ (dn : List Int) (tot : Int) (v4 : Option D), ns.reverse = dn ++ r ∧ tot = dn.reverse.foldr (fun a r => (r * x + a) % p) 0 ∧ ρ = [some (.lst (ns.map D.int)), some (.int x), some (.int p), some (.int tot), v4] ∧ m' = m) ?_ ?_ ns.reverse _ _ ⟨[], 0, none, rfl, rfl, rfl, rfl⟩
  · rintro z r kk hkk ρ m' ⟨dn, tot, v4, hz, ht, rfl, rfl⟩
    walk_at "dx"
    refine ⟨mulR hx.1 (by omega), by omega, hkk _ _ ⟨dn ++ [z], _, _, by rw [hz]; simp, ?_, rfl, rfl⟩⟩
    rw [List.reverse_append, ht]
    rfl
  · rintro ρ m' ⟨dn, tot, v4, hz, ht, rfl, rfl⟩
    walk_at "lst"
    have e : tot = ns.foldr (fun a r => (r * x + a) % p) 0 := by
      rw [List.append_nil] at hz
      rw [ht, ← hz, List.reverse_reverse]
    rw [e]
    exact ⟨by omega, q⟩
/-! ### the join's asker -/
def C_Join_init : DC := fun ds m Φ _ => ∃ (k : Nat) (p : Int) (pts : List (List Int)) (cl : List Int), ds = [.hnd k, .int p, .lst (pts.map intL), .lst (cl.map D.int)] ∧ m.M[k]? = some (.ins "Join" []) ∧ pts.length ≤ 1000 ∧ Φ .non ⟨m.M.set k (.ins "Join" (joinF p pts cl none none none)), m.s⟩
def W_Join_init (fl : String → List String) : DS := dSeq (dSetF (fl "p") "p" (dVar 1) (dVar 0)) (dSeq (dSetF (fl "points") "points" (dLc (diList (dVar 2)) (dgName 4) (dYes) (dCB cList (dCons (dVar 4) (dNil))) [4]) (dVar 0)) (dSeq (dSetF (fl "claims") "claims" (dCB cList (dCons (dVar 3) (dNil))) (dVar 0)) (dSeq (dSetF (fl "mix") "mix" (dC .non) (dVar 0)) (dSeq (dSetF (fl "sums") "sums" (dC .non) (dVar 0)) (dSeq (dSetF (fl "next_point") "next_point" (dC .non) (dVar 0)) (dSetF (fl "next_claim") "next_claim" (dC .non) (dVar 0)))))))
theorem rd_Join_init {fl : String → List String} (F : Fl_Join fl) : ∀ ds m Φ Ψ, ds.length = 4 → C_Join_init ds m Φ Ψ → W_Join_init fl { nx := fun _ m' => Φ .non m', rt := Φ } (fun _ => Ψ) (ds.map some ++ List.replicate (5 - ds.length) none) m := by
  intro ds m Φ Ψ _ h
  obtain ⟨k, p, pts, cl, rfl, ob, hl, q⟩ := h
  have hk := getLt ob
  have g1 : ∀ o, (m.M.set k o)[k]? = some o := fun o => List.getElem?_set_self hk
  have g2 : ∀ o1 o2 : MO, (m.M.set k o1).set k o2 = m.M.set k o2 := fun o1 o2 => List.set_set ..
  change W_Join_init fl _ _ [some (.hnd k), some (.int p), some (.lst (pts.map intL)), some (.lst (cl.map D.int)), none] m
  unfold W_Join_init
  walk_at "stp"
  walk_at "jg"
  refine ⟨by decide, ?_⟩
  walk_at "nxt"
  refine lcW_fnM (inj := intL) (out := intL) (fun x : List Int => x) _ pts ?_ (fun y => clD_pl _ (plD_ints y)) (by show _ ≤ 16777216; omega) ?_
  · intro x hx acc Θ hΘ
    rw [show intL x = .lst (x.map D.int) from rfl]
    walk_at "dx"
    exact hΘ
  rw [List.map_id']
  walk_at "jg"
  refine ⟨by simp [putD], ?_⟩
  walk_at "nxt"
  walk_at "jg"
  refine ⟨by simp [putD], ?_⟩
  walk_at "nxt"
  walk_at "jg"
  refine ⟨by simp [putD], ?_⟩
  walk_at "nxt"
  walk_at "jg"
  refine ⟨by simp [putD], ?_⟩
  walk_at "nxt"
  walk_at "jg"
  refine ⟨by simp [putD], ?_⟩
  walk_at "lst"
  walk_at "jg"
  refine ⟨by simp [putD], ?_⟩
  have e : putD "next_claim" D.non (putD "next_point" D.non (putD "sums" D.non (putD "mix" D.non (putD "claims" (D.lst (cl.map D.int)) (putD "points" (.lst (pts.map intL)) (putD "p" (D.int p) [])))))) = joinF p pts cl none none none := by
    simp [putD, joinF, oiD, ohD, onP, onC]
  rw [e]
  exact q
/-- a join whose claims are mixed -/
structure JnB (m : MM) (k ks j : Nat) (p : Int) (pts : List (List Int)) (cl : List Int) (mix scl : Int) (ths : List Int) (sent : Option (List Int)) (nx : Option (List Int × Int)) (n : Nat) : Prop where
  ob : m.M[k]? = some (.ins "Join" (joinF p pts cl (some mix) (some ks) nx))
  a : Ask m ks j p scl (List.replicate n 2) ths sent
  hm : 0 ≤ mix ∧ mix < p
  pin : ∀ x ∈ pts, InP p x ∧ x.length = n
  pl : pts.length ≤ 1000
  tin : InP p ths
structure JnA (m : MM) (k : Nat) (p : Int) (pts : List (List Int)) (cl : List Int) (n : Nat) : Prop where
  ob : m.M[k]? = some (.ins "Join" (joinF p pts cl none none none))
  pm : PM p
  pr : Prim p
  pin : ∀ x ∈ pts, InP p x ∧ x.length = n
  pl : pts.length ≤ 1000
  p0 : 0 < pts.length
  n1 : n ≤ 1000
def wantS (sent : Option (List Int)) (done : Bool) (nx : Option (List Int × Int)) : String :=
  if sent.isSome then "throw" else if done = false then "polynomial" else if nx = none then "value" else "nothing"
def sD (s : String) : D := .str (PySem.Str.ofString s)
def C_Join_wants : DC := fun ds m Φ _ => ∃ (k n : Nat) (p : Int) (pts : List (List Int)) (cl : List Int), ds = [.hnd k] ∧ ((JnA m k p pts cl n ∧ Φ (sD "throw") m) ∨
  ∃ (ks j : Nat) (mix scl : Int) (ths : List Int) (sent : Option (List Int)) (nx : Option (List Int × Int)), JnB m k ks j p pts cl mix scl ths sent nx n ∧ Φ (sD (wantS sent (decide (ths.length = n)) nx)) m)
def W_Join_wants (fl : String → List String) : DS := dSeq (dIf (dOr (dB (dOp oIsN (dFld (fl "mix") "mix" (dVar 0)) (dC .non))) (dB (dOp oNotN (dFld (fl "sent") "sent" (dFld (fl "sums") "sums" (dVar 0))) (dC .non)))) (dRet (dC (.str (PySem.Str.ofString "throw")))) (dNext)) (dSeq (dIf (dNot (dB (dMeth [("SumAsker", C_SumAsker_is_done)] "is_done" 0 (dFld (fl "sums") "sums" (dVar 0)) dNil))) (dRet (dC (.str (PySem.Str.ofString "polynomial")))) (dNext)) (dRet (dIfE (dB (dOp oIsN (dFld (fl "next_claim") "next_claim" (dVar 0)) (dC .non))) (dC (.str (PySem.Str.ofString "value"))) (dC (.str (PySem.Str.ofString "nothing"))))))
theorem rd_Join_wants {fl : String → List String} (F : Fl_Join fl) : ∀ ds m Φ Ψ, ds.length = 1 → C_Join_wants ds m Φ Ψ → W_Join_wants fl { nx := fun _ m' => Φ .non m', rt := Φ } (fun _ => Ψ) (ds.map some ++ List.replicate (1 - ds.length) none) m := by
  intro ds m Φ Ψ _ h
  obtain ⟨k, n, p, pts, cl, rfl, h⟩ := h
  change W_Join_wants fl _ _ [some (.hnd k)] m
  unfold W_Join_wants
  rcases h with ⟨a, q⟩ | ⟨ks, j, mix, scl, ths, sent, nx, b, q⟩
  · have ob := a.ob
    have obs := ob
    walk_at "stp"
    walk_at "jn"
    exact q
  · have ob := b.ob
    have obs := b.a.ob
    have lt := b.a.lt
    rw [List.length_replicate] at lt
    walk_at "stp"
    walk_at "jn"
    cases sent with
    | some vs =>
      walk_at "jn"
      exact q
    | none =>
      walk_at "jn"
      walk_at "nxt"
      walk_at "jn"
      refine ⟨rfl, ks, j, p, scl, _, ths, none, rfl, b.a, ?_⟩
      walk_at "dx"
      rw [List.length_replicate]
      by_cases e : ths.length = n
      · rw [if_neg (fun z => z e)]
        rw [decide_eq_true e] at q
        walk_at "lst"
        walk_at "jn"
        cases nx with
        | none => walk_at "dx"; exact q
        | some x => walk_at "dx"; exact q
      · rw [if_pos e]
        rw [decide_eq_false e] at q
        exact q
theorem eqD_s {a b : String} : eqD (.str (PySem.Str.ofString a)) (.str (PySem.Str.ofString b)) = decide (a = b) := by
  rw [eqD_str]
  exact decide_eq_decide.mpr ⟨fun h => ofString_inj.mp h, fun h => by rw [h]⟩
theorem nes {a b : String} {P Q : Prop} (o1 : PyData.strOk (PySem.Str.ofString a) = true) (o2 : PyData.strOk (PySem.Str.ofString b) = true) (h1 : a ≠ b → P) (h2 : a = b → Q) : okE 64 (.str (PySem.Str.ofString a)) = true ∧ okE 64 (.str (PySem.Str.ofString b)) = true ∧ if eqD (.str (PySem.Str.ofString a)) (.str (PySem.Str.ofString b)) = false then P else Q := by
  refine ⟨o1, o2, ?_⟩
  rw [eqD_s]
  by_cases e : a = b
  · rw [decide_eq_true e, if_neg (by decide)]; exact h2 e
  · rw [decide_eq_false e, if_pos rfl]; exact h1 e
theorem eqs {a b : String} {P Q : Prop} (o1 : PyData.strOk (PySem.Str.ofString a) = true) (o2 : PyData.strOk (PySem.Str.ofString b) = true) (h1 : a = b → P) (h2 : a ≠ b → Q) : okE 64 (.str (PySem.Str.ofString a)) = true ∧ okE 64 (.str (PySem.Str.ofString b)) = true ∧ if eqD (.str (PySem.Str.ofString a)) (.str (PySem.Str.ofString b)) = true then P else Q := by
  refine ⟨o1, o2, ?_⟩
  rw [eqD_s]
  by_cases e : a = b
  · rw [decide_eq_true e, if_pos rfl]; exact h1 e
  · rw [decide_eq_false e, if_neg (by decide)]; exact h2 e
def jtE (s : String) : List (String × D) := [("step", sD s)]
def C_Join_throw : DC := fun ds m Φ Ψ => ∃ (k n : Nat) (t p : Int) (pts : List (List Int)) (cl : List Int), ds = [.hnd k, .int t] ∧ ((JnA m k p pts cl n ∧ (¬ (0 ≤ t ∧ t < p) → Ψ "TalkError" (jtE "throw") m) ∧
    (0 ≤ t ∧ t < p → Φ .non ⟨m.M.set k (.ins "Join" (joinF p pts cl (some t) (some m.M.length) none)) ++ [.ins "SumAsker" (askF p (mixV cl t p) (List.replicate n 2) (m.M.length + 1) none), .lst []], m.s⟩)) ∨
  ∃ (ks j : Nat) (mix scl : Int) (ths : List Int) (sent : Option (List Int)) (nx : Option (List Int × Int)), JnB m k ks j p pts cl mix scl ths sent nx n ∧ (sent = none ∨ ¬ (0 ≤ t ∧ t < p) → Ψ "TalkError" (jtE "throw") m) ∧
    (∀ vs, sent = some vs → 0 ≤ t → t < p → Φ .non ⟨(m.M.set ks (.ins "SumAsker" (askF p (valV vs t p) (List.replicate n 2) j none))).set j (.lst ((ths ++ [t]).map D.int)), m.s⟩))
theorem want_ok {sent : Option (List Int)} {d : Bool} {nx : Option (List Int × Int)} : PyData.strOk (PySem.Str.ofString (wantS sent d nx)) = true := by
  unfold wantS
  split
  · decide +kernel
  · split
    · decide +kernel
    · split <;> decide +kernel
theorem want_throw {sent : Option (List Int)} {d : Bool} {nx : Option (List Int × Int)} : (wantS sent d nx = "throw") = (sent ≠ none) := by
  unfold wantS
  cases sent with
  | none =>
    cases d <;> cases nx <;> simp
  | some vs => simp
def W_Join_throw (fl : String → List String) : DS := dSeq (dIf (dOr (dB (dOp oNe (dMeth [("Join", C_Join_wants)] "wants" 0 (dVar 0) dNil) (dC (.str (PySem.Str.ofString "throw"))))) (dNot (dB (dCall 2 C_is_number (dCons (dVar 1) (dCons (dFld (fl "p") "p" (dVar 0)) (dNil))))))) (dRaise "TalkError" ["step"] (dCons (dC (.str (PySem.Str.ofString "throw"))) (dNil))) (dNext)) (dIf (dB (dOp oIsN (dFld (fl "mix") "mix" (dVar 0)) (dC .non))) (dSeq (dSetF (fl "mix") "mix" (dVar 1) (dVar 0)) (dSetF (fl "sums") "sums" (dMake 3 "SumAsker" C_SumAsker_init (dCons (dFld (fl "p") "p" (dVar 0)) (dCons (dCall 3 C_mixed (dCons (dFld (fl "claims") "claims" (dVar 0)) (dCons (dVar 1) (dCons (dFld (fl "p") "p" (dVar 0)) (dNil))))) (dCons (dOp oRep (dLst (dCons (dC (.int 2)) (dNil))) (dCB cLen (dCons (dOp oIx (dFld (fl "points") "points" (dVar 0)) (dC (.int 0))) (dNil)))) (dNil))))) (dVar 0))) (dDrop (dMeth [("SumAsker", C_SumAsker_throw)] "throw" 1 (dFld (fl "sums") "sums" (dVar 0)) (dCons (dVar 1) (dNil)))))
theorem rd_Join_throw {fl : String → List String} (F : Fl_Join fl) : ∀ ds m Φ Ψ, ds.length = 2 → C_Join_throw ds m Φ Ψ → W_Join_throw fl { nx := fun _ m' => Φ .non m', rt := Φ } (fun _ => Ψ) (ds.map some ++ List.replicate (2 - ds.length) none) m := by
  intro ds m Φ Ψ _ h
  obtain ⟨k, n, t, p, pts, cl, rfl, h⟩ := h
  change W_Join_throw fl _ _ [some (.hnd k), some (.int t)] m
  unfold W_Join_throw
  rcases h with ⟨a, q1, q2⟩ | ⟨ks, j, mix, scl, ths, sent, nx, b, q1, q2⟩
  · have ob := a.ob
    have obs := ob
    have hk := getLt ob
    have hp1 := a.pm.1
    have hp2 := a.pm.2
    walk_at "stp"
    walk_at "jn"
    refine ⟨rfl, k, n, p, pts, cl, rfl, .inl ⟨a, ?_⟩⟩
    unfold sD
    walk_at "jn"
    refine nes (by decide +kernel) (by decide +kernel) (fun h => absurd rfl h) fun _ => ⟨t, p, rfl, ?_⟩
    walk_at "dx"
    by_cases e : 0 ≤ t ∧ t < p
    · rw [if_neg (fun z => z e)]
      walk_at "lst"
      walk_at "jn"
      refine ⟨by show 7 < 1000; decide, ?_⟩
      rw [show putD "mix" (.int t) (joinF p pts cl none none none) = joinF p pts cl (some t) none none from rfl]
      have ob : (m.M.set k (.ins "Join" (joinF p pts cl (some t) none none)))[k]? = some (.ins "Join" (joinF p pts cl (some t) none none)) := List.getElem?_set_self hk
      have obA := obApp ob
      have obs := obA
      have hk1 := getLt ob
      obtain ⟨pt0, hpt⟩ : ∃ x, x = pts.getD 0 [] := ⟨_, rfl⟩
      have gp : pts[0]? = some pt0 := by rw [hpt, List.getD_eq_getElem?_getD, List.getElem?_eq_getElem a.p0]; rfl
      have pl : pt0.length = n := (a.pin _ (List.mem_of_getElem? gp)).2
      have n1 := a.n1
      walk_at "jn"
      refine ⟨cl, t, p, rfl, a.pm, e, ?_⟩
      walk_at "jn"
      refine ⟨by decide, intL pt0, atI_nat (j := 0) (by rw [List.getElem?_map, gp]; rfl), ?_⟩
      rw [show intL pt0 = .lst (pt0.map D.int) from rfl]
      walk_at "dx"
      unfold oRep
      dsimp only
      rw [Int.toNat_natCast, rep_flat, pl]
      refine ⟨by show 1 * n ≤ 16777216; omega, by omega, by omega, ?_⟩
      obtain ⟨M1, hM1⟩ : ∃ M1, M1 = m.M.set k (.ins "Join" (joinF p pts cl (some t) none none)) := ⟨_, rfl⟩
      have M1l : M1.length = m.M.length := by rw [hM1, List.length_set]
      rw [← hM1] at ob obA hk1 ⊢
      refine ⟨M1.length, p, mixV cl t p, List.replicate n 2, rfl, app_len, rfl, ?_⟩
      rw [set_app]
      dsimp only
      have o3 : ∀ L, (M1 ++ L)[k]? = some (.ins "Join" (joinF p pts cl (some t) none none)) := obA
      rw [List.append_assoc, o3]
      simp only [moI_ins]
      refine ⟨F.sums, by show 7 < 1000; decide, ?_⟩
      rw [List.set_append_left _ _ hk1, hM1, List.set_set, List.length_append, List.length_set]
      exact q2 e
    · rw [if_pos e]
      exact q1 e
  · have ob := b.ob
    have obs := b.a.ob
    walk_at "stp"
    walk_at "jn"
    refine ⟨rfl, k, n, p, pts, cl, rfl, .inr ⟨ks, j, mix, scl, ths, sent, nx, b, ?_⟩⟩
    unfold sD
    walk_at "jn"
    refine nes want_ok (by decide +kernel) (fun h => q1 (.inl ?_)) fun h => ⟨t, p, rfl, ?_⟩
    · rw [ne_eq, want_throw] at h
      exact Classical.byContradiction fun z => h z
    rw [want_throw] at h
    walk_at "dx"
    by_cases e : 0 ≤ t ∧ t < p
    · rw [if_neg (fun z => z e)]
      obtain ⟨vs, rfl⟩ : ∃ vs, sent = some vs := by
        cases sent with
        | none => exact absurd rfl h
        | some vs => exact ⟨vs, rfl⟩
      walk_at "lst"
      walk_at "jn"
      refine ⟨rfl, ks, j, p, scl, t, _, ths, _, rfl, b.a, fun z => (by cases z), fun vs2 hv => ⟨e.1, ?_⟩⟩
      injection hv with hv
      subst hv
      exact q2 _ rfl e.1 e.2
    · rw [if_pos e]
      exact q1 (.inr e)
end Dl

namespace Dl
open PySem L2
local macro_rules | `(tactic| walk_at "dl") => `(tactic| try simp only [dSeq, dSet, dRaise_one, dRaise_two, dTryAs, dXf, dIsE, List.lookup_cons, List.lookup_nil, beq_self_eq_true, Bool.false_eq_true, if_false, dOp, dUn, dVar, dC, dCB, dCons, dNil, dRet, dRetN, dIf, dB, dAnd, dOr, dNot, dDrop, dNext, dMethL, dSetIx, dAndV, dOrV, dNotV, dBlV, dIfE, dLst, dTup, dLstM, dCall, dChain, dAsg, dgName, dgTup, bindD, asT, dFor, diList, diRng1, diRng2, diEnumerate, diZip, diReversed, dLc, dLcM, dYes, wipeD, dAug, dSl, dSlT, dpN, dpS,
  oI, oI0, oB0, oAdd, oNeg, oEq, oNe, oIx, oIsN, oNotN, isNon, oShl, oApp, oPop, oPopAt, cLen, cInt, cAbs, cSum, cMax2, cMin2, cList, cIsi, tyD, asL, asF, asK, moL_lst, ModC, DivC,
  List.getElem?_cons_zero, List.getElem?_cons_succ, List.set_cons_zero, List.set_cons_succ, List.getElem?_nil, List.length_cons, List.length_nil, List.length_map, Option.map_some, Option.bind_some, Option.isSome_some, if_true, true_and, and_true, MM.push])
local macro_rules | `(tactic| walk_at "dx") => `(tactic| try simp only [eq_self_iff_true, okE_int, okE_bl, okE_non, eqD_int, eqD_bl, kq_NoneType_int, kq_NoneType_bool, kq_NoneType_list, kq_NoneType_tuple, kq_NoneType_str, kq_bool_int, kq_bool_bool, kq_bool_list, kq_bool_tuple, kq_bool_str, kq_int_int, kq_int_bool, kq_int_list, kq_int_tuple, kq_int_str, kq_str_int, kq_str_bool, kq_str_list, kq_str_tuple, kq_str_str, kq_list_int, kq_list_bool, kq_list_list, kq_list_tuple, kq_list_str, kq_tuple_int, kq_tuple_bool, kq_tuple_list, kq_tuple_tuple, kq_tuple_str, oInL, oIsB, oNotB, oEqH, oNeH, oShr, oExt, cMaxL, cMinL, cAny, cAll, cTuple, cListM, dRevL, dFld, dSetF, dAugF, dMeth, dMake, moI_ins, app_len, set_app, List.contains_cons, List.contains_nil, Bool.true_or,  Bool.true_eq_false, decide_true, not_true_eq_false, not_false_eq_true, Bool.not_true, Bool.not_false, decide_eq_true_eq, Bool.not_eq_true', decide_eq_false_iff_not, dSeq, dSet, dRaise_one, dRaise_two, dTryAs, dXf, dIsE, List.lookup_cons, List.lookup_nil, beq_self_eq_true, Bool.false_eq_true, if_false, dOp, dUn, dVar, dC, dCB, dCons, dNil, dRet, dRetN, dIf, dB, dAnd, dOr, dNot, dDrop, dNext, dMethL, dSetIx, dAndV, dOrV, dNotV, dBlV, dIfE, dLst, dTup, dLstM, dCall, dChain, dAsg, dgName, dgTup, bindD, asT, dFor, diList, diRng1, diRng2, diEnumerate, diZip, diReversed, dLc, dLcM, dYes, wipeD, dAug, dSl, dSlT, dpN, dpS,
  oI, oI0, oB0, oAdd, oNeg, oEq, oNe, oIx, oIsN, oNotN, isNon, oShl, oApp, oPop, oPopAt, cLen, cInt, cAbs, cSum, cMax2, cMin2, cList, cIsi, tyD, asL, asF, asK, moL_lst, ModC, DivC,
  List.getElem?_cons_zero, List.getElem?_cons_succ, List.set_cons_zero, List.set_cons_succ, List.getElem?_nil, List.length_cons, List.length_nil, List.length_map, Option.map_some, Option.bind_some, Option.isSome_some, if_true, true_and, and_true, MM.push])
local macro_rules | `(tactic| walk_at "lim") => `(tactic| repeat (first | (refine ⟨by decide, ?_⟩) | (refine ⟨by (try simp only [List.length_map, List.length_dropLast, List.length_append, List.length_cons, List.length_nil, List.length_replicate, List.length_take, List.length_drop, List.length_range]); (show _ ≤ 16777216); omega, ?_⟩)))

set_option hygiene false in
local macro_rules | `(tactic| walk_at "stp") => `(tactic| (refine dSeq_k fun k1 h1 => ?_; walk_at "dx"))
set_option hygiene false in
local macro_rules | `(tactic| walk_at "nxt") => `(tactic| (subst h1; (try dsimp only); refine dSeq_k fun k1 h1 => ?_; walk_at "dx"))
set_option hygiene false in
local macro_rules | `(tactic| walk_at "lst") => `(tactic| (subst h1; (try dsimp only); walk_at "dx"))
set_option hygiene false in
local macro_rules | `(tactic| walk_at "nxt2") => `(tactic| (subst h2; (try dsimp only); refine dSeq_k fun k2 h2 => ?_; walk_at "dx"))
set_option hygiene false in
local macro_rules | `(tactic| walk_at "stp2") => `(tactic| (refine dSeq_k fun k2 h2 => ?_; walk_at "dx"))
set_option hygiene false in
local macro_rules | `(tactic| walk_at "lst2") => `(tactic| (subst h2; (try dsimp only); walk_at "dx"))

set_option hygiene false in
local macro_rules | `(tactic| walk_at "jn") => `(tactic| (walk_at "dx"; (try simp only [ob, obs, oiD, ohD, onP, onC, onL, sentD, moI_ins, lkJ_p, lkJ_points, lkJ_claims, lkJ_mix, lkJ_sums, lkJ_np, lkJ_nc, lkS_sent, lkS_throws, lkS_claim, lkA_p, lkA_table, lkA_points, lkA_near, Fl_Join.p, Fl_Join.points, Fl_Join.claims, Fl_Join.mix, Fl_Join.sums, Fl_Join.np, Fl_Join.nc, Fl_Join.sent, Fl_Join.throws, Fl_Join.claim, Fl_JoinAnswerer.p, Fl_JoinAnswerer.table, Fl_JoinAnswerer.points, Fl_JoinAnswerer.near, exists_eq_left', Option.some.injEq, true_and, and_true])))
set_option hygiene false in
local macro_rules | `(tactic| walk_at "jg") => `(tactic| (walk_at "dx"; (try simp only [ob, g1, g2, moI_ins, lkJ_p, lkJ_points, lkJ_claims, lkJ_mix, lkJ_sums, lkJ_np, lkJ_nc, lkS_sent, lkS_throws, lkS_claim, lkA_p, lkA_table, lkA_points, lkA_near, Fl_Join.p, Fl_Join.points, Fl_Join.claims, Fl_Join.mix, Fl_Join.sums, Fl_Join.np, Fl_Join.nc, Fl_Join.sent, Fl_Join.throws, Fl_Join.claim, Fl_JoinAnswerer.p, Fl_JoinAnswerer.table, Fl_JoinAnswerer.points, Fl_JoinAnswerer.near, exists_eq_left', Option.some.injEq, true_and, and_true])))

/-- a list that still changes as the second point -/
def C_nearness__h : DC := fun ds m Φ _ => ∃ (pt ot : List Int) (j : Nat) (p : Int), ds = [.lst (pt.map D.int), .hnd j, .int p] ∧ m.M[j]? = some (.lst (ot.map D.int)) ∧ PM p ∧ InP p pt ∧ InP p ot ∧ pt.length = ot.length ∧ Φ (.int (nrF p ot 0 pt (1 % p))) m
def W_nearness__h : DS := dSeq (dSet 3 (dOp oMod (dC (.int 1)) (dVar 2))) (dSeq (dFor (diEnumerate (dCons (dVar 0) (dNil))) (dgTup [4, 5]) (dSet 3 (dOp oMod (dOp oMul (dVar 3) (dOp oAdd (dOp oMul (dVar 5) (dOp oIx (dVar 1) (dVar 4))) (dOp oMul (dOp oSub (dC (.int 1)) (dVar 5)) (dOp oSub (dC (.int 1)) (dOp oIx (dVar 1) (dVar 4)))))) (dVar 2)))) (dRet (dVar 3)))
theorem rd_nearness__h : ∀ ds m Φ Ψ, ds.length = 3 → C_nearness__h ds m Φ Ψ → W_nearness__h { nx := fun _ m' => Φ .non m', rt := Φ } (fun _ => Ψ) (ds.map some ++ List.replicate (6 - ds.length) none) m := by
  intro ds m Φ Ψ _ h
  obtain ⟨pt, ot, j, p, rfl, oj, ⟨hp, hp2⟩, hi, ho, hl, q⟩ := h
  change W_nearness__h _ _ [some (D.lst (pt.map D.int)), some (.hnd j), some (.int p), none, none, none] m
  unfold W_nearness__h
  refine dSeq_k fun k1 h1 => ?_
  walk_at "dl"
  refine ⟨by omega, ?_⟩
  subst h1
  refine dSeq_k fun k1 h1 => ?_
  walk_at "dl"
  refine forW_enum (inj := D.int) (fun i r ρ m' => ∃ (z : Int) (a b : Option D), ρ = [some (D.lst (pt.map D.int)), some (.hnd j), some (.int p), some (.int z), a, b] ∧ m' = m ∧ InP p r ∧ i + r.length ≤ ot.length ∧ nrF p ot i r z = nrF p ot 0 pt (1 % p)) ?_ ?_ pt 0 _ _ ⟨_, _, _, rfl, rfl, hi, by omega, rfl⟩
  · rintro i x r kk hk ρ m' ⟨z, a, b, rfl, rfl, hr, hi, hf⟩
    rw [List.length_cons] at hi
    have hx := hr x List.mem_cons_self
    have hg := ho.gN (i := i) (by omega)
    walk_at "dl"
    simp only [oj, moL_lst]
    refine ⟨_, atI_gi (by omega) (by omega), mulL hx.1 (by omega), ?_⟩
    walk_at "dl"
    simp only [oj, moL_lst]
    refine ⟨_, atI_gi (by omega) (by omega), ?_⟩
    walk_at "dl"
    refine ⟨.inr (.inl ⟨by omega, by omega⟩), ?_⟩
    have b1 : 0 ≤ x * gi ot (i : Nat) := Int.mul_nonneg hx.1 hg.1
    have b2 : x * gi ot (i : Nat) ≤ 2147483647 * 2147483647 := Int.mul_le_mul (by omega) (by omega) hg.1 (by decide)
    have b3 : (1 - x) * (1 - gi ot (i : Nat)) ≤ 2147483647 * 2147483647 := by
      have : (1 - x) * (1 - gi ot (i : Nat)) = (x - 1) * (gi ot (i : Nat) - 1) := by grind
      rw [this]
      by_cases h0 : x = 0
      · rw [h0]
        omega
      · by_cases h1 : gi ot (i : Nat) = 0
        · rw [h1]; omega
        · exact Int.mul_le_mul (by omega) (by omega) (by omega) (by decide)
    have b4 : -2147483647 ≤ (1 - x) * (1 - gi ot (i : Nat)) := by
      have : (1 - x) * (1 - gi ot (i : Nat)) = (x - 1) * (gi ot (i : Nat) - 1) := by grind
      rw [this]
      by_cases h0 : x = 0
      · rw [h0]; omega
      · by_cases h1 : gi ot (i : Nat) = 0
        · rw [h1]; omega
        · have : 0 ≤ (x - 1) * (gi ot (i : Nat) - 1) := Int.mul_nonneg (by omega) (by omega)
          omega
    refine ⟨.inr (.inl ⟨by omega, by omega⟩), by omega, hk _ _ ⟨_, _, _, rfl, rfl, fun y hy => hr y (List.mem_cons_of_mem _ hy), by omega, hf⟩⟩
  · rintro i ρ m' ⟨z, a, b, rfl, rfl, hr, hi, hf⟩
    subst h1
    walk_at "dl"
    have e : z = _ := hf
    rw [e]
    exact q

def C_Join_answer : DC := fun ds m Φ Ψ => ∃ (k n : Nat) (p : Int) (pts : List (List Int)) (cl vs : List Int), ds = [.hnd k, .lst (vs.map D.int)] ∧ ((JnA m k p pts cl n ∧ Ψ "TalkError" (jtE "polynomial") m) ∨
  ∃ (ks j : Nat) (mix scl : Int) (ths : List Int) (sent : Option (List Int)) (nx : Option (List Int × Int)), JnB m k ks j p pts cl mix scl ths sent nx n ∧ vs.length ≤ 1000 ∧ (wantS sent (decide (ths.length = n)) nx ≠ "polynomial" → Ψ "TalkError" (jtE "polynomial") m) ∧
    (wantS sent (decide (ths.length = n)) nx = "polynomial" → Φ (.bl (askC vs p scl (List.replicate n 2) ths)) ⟨if askC vs p scl (List.replicate n 2) ths = true then m.M.set ks (.ins "SumAsker" (askF p scl (List.replicate n 2) j (some vs))) else m.M, m.s⟩))
theorem want_poly {sent : Option (List Int)} {d : Bool} {nx : Option (List Int × Int)} : (wantS sent d nx = "polynomial") = (sent = none ∧ d = false) := by
  unfold wantS
  cases sent with
  | none =>
    cases d <;> cases nx <;> simp
  | some vs => simp
theorem want_value {sent : Option (List Int)} {d : Bool} {nx : Option (List Int × Int)} : (wantS sent d nx = "value") = (sent = none ∧ d = true ∧ nx = none) := by
  unfold wantS
  cases sent with
  | none =>
    cases d <;> cases nx <;> simp
  | some vs => simp
theorem gi_rep {n i : Nat} (h : i < n) : gi (List.replicate n (2 : Int)) (i : Nat) = 2 := by
  rw [gi_nat, List.getD_eq_getElem?_getD, List.getElem?_replicate, if_pos h]; rfl
def W_Join_answer (fl : String → List String) : DS := dSeq (dIf (dB (dOp oNe (dMeth [("Join", C_Join_wants)] "wants" 0 (dVar 0) dNil) (dC (.str (PySem.Str.ofString "polynomial"))))) (dRaise "TalkError" ["step"] (dCons (dC (.str (PySem.Str.ofString "polynomial"))) (dNil))) (dNext)) (dRet (dMeth [("SumAsker", C_SumAsker_accept)] "accept" 1 (dFld (fl "sums") "sums" (dVar 0)) (dCons (dVar 1) (dNil))))
theorem rd_Join_answer {fl : String → List String} (F : Fl_Join fl) : ∀ ds m Φ Ψ, ds.length = 2 → C_Join_answer ds m Φ Ψ → W_Join_answer fl { nx := fun _ m' => Φ .non m', rt := Φ } (fun _ => Ψ) (ds.map some ++ List.replicate (2 - ds.length) none) m := by
  intro ds m Φ Ψ _ h
  obtain ⟨k, n, p, pts, cl, vs, rfl, h⟩ := h
  change W_Join_answer fl _ _ [some (.hnd k), some (.lst (vs.map D.int))] m
  unfold W_Join_answer
  rcases h with ⟨a, q1⟩ | ⟨ks, j, mix, scl, ths, sent, nx, b, v1000, q1, q2⟩
  · have ob := a.ob
    have obs := ob
    walk_at "stp"
    walk_at "jn"
    refine ⟨rfl, k, n, p, pts, cl, rfl, .inl ⟨a, ?_⟩⟩
    unfold sD
    walk_at "jn"
    exact nes (by decide +kernel) (by decide +kernel) (fun h => q1) fun h => absurd h (by decide)
  · have ob := b.ob
    have obs := b.a.ob
    walk_at "stp"
    walk_at "jn"
    refine ⟨rfl, k, n, p, pts, cl, rfl, .inr ⟨ks, j, mix, scl, ths, sent, nx, b, ?_⟩⟩
    unfold sD
    walk_at "jn"
    refine nes want_ok (by decide +kernel) (fun h => q1 h) fun h => ?_
    have q3 := q2 h
    rw [want_poly] at h
    obtain ⟨rfl, hd⟩ := h
    have hd := of_decide_eq_false hd
    have lt := b.a.lt
    rw [List.length_replicate] at lt
    walk_at "lst"
    walk_at "jn"
    refine ⟨rfl, ks, j, p, scl, _, ths, none, vs, rfl, b.a, v1000, fun z => absurd ⟨by rw [List.length_replicate]; omega, rfl⟩ z, fun _ _ => ⟨?_, ?_⟩⟩
    · rw [gi_rep (by omega)]; decide
    · walk_at "dx"
      exact q3
def C_Join_answer_value : DC := fun ds m Φ Ψ => ∃ (k n : Nat) (t p : Int) (pts : List (List Int)) (cl : List Int), ds = [.hnd k, .int t] ∧ ((JnA m k p pts cl n ∧ Ψ "TalkError" (jtE "value") m) ∨
  ∃ (ks j : Nat) (mix scl : Int) (ths : List Int) (sent : Option (List Int)) (nx : Option (List Int × Int)), JnB m k ks j p pts cl mix scl ths sent nx n ∧ (wantS sent (decide (ths.length = n)) nx ≠ "value" → Ψ "TalkError" (jtE "value") m) ∧
    (wantS sent (decide (ths.length = n)) nx = "value" → (¬ ((0 ≤ t ∧ t < p) ∧ mixV (pts.map fun x => nrF p ths 0 x (1 % p)) mix p * t % p = scl) → Φ (.bl false) m) ∧
      ((0 ≤ t ∧ t < p) → mixV (pts.map fun x => nrF p ths 0 x (1 % p)) mix p * t % p = scl → Φ (.bl true) ⟨m.M.set k (.ins "Join" (joinF p pts cl (some mix) (some ks) (some (ths, t)))), m.s⟩)))
def W_Join_answer_value (fl : String → List String) : DS := dSeq (dIf (dB (dOp oNe (dMeth [("Join", C_Join_wants)] "wants" 0 (dVar 0) dNil) (dC (.str (PySem.Str.ofString "value"))))) (dRaise "TalkError" ["step"] (dCons (dC (.str (PySem.Str.ofString "value"))) (dNil))) (dNext)) (dSeq (dSet 2 (dFld (fl "throws") "throws" (dFld (fl "sums") "sums" (dVar 0)))) (dSeq (dSet 3 (dCall 3 C_mixed (dCons (dLc (diList (dFld (fl "points") "points" (dVar 0))) (dgName 4) (dYes) (dCall 3 C_nearness__h (dCons (dVar 4) (dCons (dVar 2) (dCons (dFld (fl "p") "p" (dVar 0)) (dNil))))) [4]) (dCons (dFld (fl "mix") "mix" (dVar 0)) (dCons (dFld (fl "p") "p" (dVar 0)) (dNil)))))) (dSeq (dIf (dOr (dNot (dB (dCall 2 C_is_number (dCons (dVar 1) (dCons (dFld (fl "p") "p" (dVar 0)) (dNil)))))) (dB (dOp oNe (dOp oMod (dOp oMul (dVar 3) (dVar 1)) (dFld (fl "p") "p" (dVar 0))) (dFld (fl "claim") "claim" (dFld (fl "sums") "sums" (dVar 0)))))) (dRet (dC (.bl false))) (dNext)) (dSeq (dSetF (fl "next_point") "next_point" (dCB cList (dCons (dVar 2) (dNil))) (dVar 0)) (dSeq (dSetF (fl "next_claim") "next_claim" (dVar 1) (dVar 0)) (dRet (dC (.bl true))))))))
theorem rd_Join_answer_value {fl : String → List String} (F : Fl_Join fl) : ∀ ds m Φ Ψ, ds.length = 2 → C_Join_answer_value ds m Φ Ψ → W_Join_answer_value fl { nx := fun _ m' => Φ .non m', rt := Φ } (fun _ => Ψ) (ds.map some ++ List.replicate (5 - ds.length) none) m := by
  intro ds m Φ Ψ _ h
  obtain ⟨k, n, t, p, pts, cl, rfl, h⟩ := h
  change W_Join_answer_value fl _ _ [some (.hnd k), some (.int t), none, none, none] m
  unfold W_Join_answer_value
  rcases h with ⟨a, q1⟩ | ⟨ks, j, mix, scl, ths, sent, nx, b, q1, q2⟩
  · have ob := a.ob
    have obs := ob
    walk_at "stp"
    walk_at "jn"
    refine ⟨rfl, k, n, p, pts, cl, rfl, .inl ⟨a, ?_⟩⟩
    unfold sD
    walk_at "jn"
    exact nes (by decide +kernel) (by decide +kernel) (fun h => q1) fun h => absurd h (by decide)
  · have ob := b.ob
    have obs := b.a.ob
    have obt := b.a.th
    have hp := b.a.pm
    have hp1 := hp.1
    have hp2 := hp.2
    have hk := getLt ob
    walk_at "stp"
    walk_at "jn"
    refine ⟨rfl, k, n, p, pts, cl, rfl, .inr ⟨ks, j, mix, scl, ths, sent, nx, b, ?_⟩⟩
    unfold sD
    walk_at "jn"
    refine nes want_ok (by decide +kernel) (fun h => q1 h) fun h => ?_
    obtain ⟨q4, q5⟩ := q2 h
    rw [want_value] at h
    obtain ⟨rfl, hd, rfl⟩ := h
    have hd := of_decide_eq_true hd
    walk_at "nxt"
    walk_at "jn"
    walk_at "nxt"
    walk_at "jn"
    have obA := fun L => obApp ob L
    have tA := fun L => obApp obt L
    refine lcW_fnM (inj := intL) (out := D.int) (fun x : List Int => nrF p ths 0 x (1 % p)) _ pts ?_ (fun _ => rfl) (by have := b.pl; show _ ≤ 16777216; omega) ?_
    · intro x hx acc Θ hΘ
      rw [show intL x = .lst (x.map D.int) from rfl]
      walk_at "dx"
      simp only [obA, moI_ins]
      walk_at "jn"
      exact ⟨x, ths, j, p, rfl, tA _, hp, (b.pin x hx).1, b.tin, by rw [(b.pin x hx).2, hd], hΘ⟩
    walk_at "jn"
    refine ⟨_, mix, p, rfl, hp, b.hm, ?_⟩
    obtain ⟨nr, hnr⟩ : ∃ nr, nr = mixV (pts.map fun x => nrF p ths 0 x (1 % p)) mix p := ⟨_, rfl⟩
    have nin : 0 ≤ nr ∧ nr < p := by rw [hnr]; unfold mixV; exact mod_in hp1
    rw [← hnr] at q4 q5 ⊢
    walk_at "nxt"
    walk_at "jn"
    refine ⟨t, p, rfl, ?_⟩
    walk_at "dx"
    by_cases e : 0 ≤ t ∧ t < p
    · rw [if_neg (fun z => z e)]
      refine ⟨mulL nin.1 (by omega), ?_⟩
      walk_at "jn"
      walk_at "dx"
      refine ⟨by omega, ?_⟩
      walk_at "jn"
      walk_at "dx"
      by_cases e2 : nr * t % p = scl
      · rw [if_neg (fun z => z e2)]
        have g1 : ∀ o, (m.M.set k o)[k]? = some o := fun o => List.getElem?_set_self hk
        have g2 : ∀ o1 o2 : MO, (m.M.set k o1).set k o2 = m.M.set k o2 := fun o1 o2 => List.set_set ..
        walk_at "lst"
        walk_at "jn"
        simp only [obt, moL_lst]
        refine ⟨by show 7 < 1000; decide, ?_⟩
        simp only [g1, g2, moI_ins]
        exact ⟨F.nc, by show 7 < 1000; decide, q5 e e2⟩
      · rw [if_pos e2]
        exact q4 fun z => e2 z.2
    · rw [if_pos e]
      exact q4 fun z => e z.1
end Dl

namespace Dl
open PySem L2
local macro_rules | `(tactic| walk_at "dl") => `(tactic| try simp only [dSeq, dSet, dRaise_one, dRaise_two, dTryAs, dXf, dIsE, List.lookup_cons, List.lookup_nil, beq_self_eq_true, Bool.false_eq_true, if_false, dOp, dUn, dVar, dC, dCB, dCons, dNil, dRet, dRetN, dIf, dB, dAnd, dOr, dNot, dDrop, dNext, dMethL, dSetIx, dAndV, dOrV, dNotV, dBlV, dIfE, dLst, dTup, dLstM, dCall, dChain, dAsg, dgName, dgTup, bindD, asT, dFor, diList, diRng1, diRng2, diEnumerate, diZip, diReversed, dLc, dLcM, dYes, wipeD, dAug, dSl, dSlT, dpN, dpS,
  oI, oI0, oB0, oAdd, oNeg, oEq, oNe, oIx, oIsN, oNotN, isNon, oShl, oApp, oPop, oPopAt, cLen, cInt, cAbs, cSum, cMax2, cMin2, cList, cIsi, tyD, asL, asF, asK, moL_lst, ModC, DivC,
  List.getElem?_cons_zero, List.getElem?_cons_succ, List.set_cons_zero, List.set_cons_succ, List.getElem?_nil, List.length_cons, List.length_nil, List.length_map, Option.map_some, Option.bind_some, Option.isSome_some, if_true, true_and, and_true, MM.push])
local macro_rules | `(tactic| walk_at "dx") => `(tactic| try simp only [eq_self_iff_true, okE_int, okE_bl, okE_non, eqD_int, eqD_bl, kq_NoneType_int, kq_NoneType_bool, kq_NoneType_list, kq_NoneType_tuple, kq_NoneType_str, kq_bool_int, kq_bool_bool, kq_bool_list, kq_bool_tuple, kq_bool_str, kq_int_int, kq_int_bool, kq_int_list, kq_int_tuple, kq_int_str, kq_str_int, kq_str_bool, kq_str_list, kq_str_tuple, kq_str_str, kq_list_int, kq_list_bool, kq_list_list, kq_list_tuple, kq_list_str, kq_tuple_int, kq_tuple_bool, kq_tuple_list, kq_tuple_tuple, kq_tuple_str, oInL, oIsB, oNotB, oEqH, oNeH, oShr, oExt, cMaxL, cMinL, cAny, cAll, cTuple, cListM, dRevL, dFld, dSetF, dAugF, dMeth, dMake, moI_ins, app_len, set_app, List.contains_cons, List.contains_nil, Bool.true_or,  Bool.true_eq_false, decide_true, not_true_eq_false, not_false_eq_true, Bool.not_true, Bool.not_false, decide_eq_true_eq, Bool.not_eq_true', decide_eq_false_iff_not, dSeq, dSet, dRaise_one, dRaise_two, dTryAs, dXf, dIsE, List.lookup_cons, List.lookup_nil, beq_self_eq_true, Bool.false_eq_true, if_false, dOp, dUn, dVar, dC, dCB, dCons, dNil, dRet, dRetN, dIf, dB, dAnd, dOr, dNot, dDrop, dNext, dMethL, dSetIx, dAndV, dOrV, dNotV, dBlV, dIfE, dLst, dTup, dLstM, dCall, dChain, dAsg, dgName, dgTup, bindD, asT, dFor, diList, diRng1, diRng2, diEnumerate, diZip, diReversed, dLc, dLcM, dYes, wipeD, dAug, dSl, dSlT, dpN, dpS,
  oI, oI0, oB0, oAdd, oNeg, oEq, oNe, oIx, oIsN, oNotN, isNon, oShl, oApp, oPop, oPopAt, cLen, cInt, cAbs, cSum, cMax2, cMin2, cList, cIsi, tyD, asL, asF, asK, moL_lst, ModC, DivC,
  List.getElem?_cons_zero, List.getElem?_cons_succ, List.set_cons_zero, List.set_cons_succ, List.getElem?_nil, List.length_cons, List.length_nil, List.length_map, Option.map_some, Option.bind_some, Option.isSome_some, if_true, true_and, and_true, MM.push])
local macro_rules | `(tactic| walk_at "lim") => `(tactic| repeat (first | (refine ⟨by decide, ?_⟩) | (refine ⟨by (try simp only [List.length_map, List.length_dropLast, List.length_append, List.length_cons, List.length_nil, List.length_replicate, List.length_take, List.length_drop, List.length_range]); (show _ ≤ 16777216); omega, ?_⟩)))

set_option hygiene false in
local macro_rules | `(tactic| walk_at "stp") => `(tactic| (refine dSeq_k fun k1 h1 => ?_; walk_at "dx"))
set_option hygiene false in
local macro_rules | `(tactic| walk_at "nxt") => `(tactic| (subst h1; (try dsimp only); refine dSeq_k fun k1 h1 => ?_; walk_at "dx"))
set_option hygiene false in
local macro_rules | `(tactic| walk_at "lst") => `(tactic| (subst h1; (try dsimp only); walk_at "dx"))
set_option hygiene false in
local macro_rules | `(tactic| walk_at "nxt2") => `(tactic| (subst h2; (try dsimp only); refine dSeq_k fun k2 h2 => ?_; walk_at "dx"))
set_option hygiene false in
local macro_rules | `(tactic| walk_at "stp2") => `(tactic| (refine dSeq_k fun k2 h2 => ?_; walk_at "dx"))
set_option hygiene false in
local macro_rules | `(tactic| walk_at "lst2") => `(tactic| (subst h2; (try dsimp only); walk_at "dx"))

set_option hygiene false in
local macro_rules | `(tactic| walk_at "jn") => `(tactic| (walk_at "dx"; (try simp only [ob, obs, oiD, ohD, onP, onC, onL, sentD, moI_ins, lkJ_p, lkJ_points, lkJ_claims, lkJ_mix, lkJ_sums, lkJ_np, lkJ_nc, lkS_sent, lkS_throws, lkS_claim, lkA_p, lkA_table, lkA_points, lkA_near, Fl_Join.p, Fl_Join.points, Fl_Join.claims, Fl_Join.mix, Fl_Join.sums, Fl_Join.np, Fl_Join.nc, Fl_Join.sent, Fl_Join.throws, Fl_Join.claim, Fl_JoinAnswerer.p, Fl_JoinAnswerer.table, Fl_JoinAnswerer.points, Fl_JoinAnswerer.near, exists_eq_left', Option.some.injEq, true_and, and_true])))
set_option hygiene false in
local macro_rules | `(tactic| walk_at "jg") => `(tactic| (walk_at "dx"; (try simp only [ob, g1, g2, moI_ins, lkJ_p, lkJ_points, lkJ_claims, lkJ_mix, lkJ_sums, lkJ_np, lkJ_nc, lkS_sent, lkS_throws, lkS_claim, lkA_p, lkA_table, lkA_points, lkA_near, Fl_Join.p, Fl_Join.points, Fl_Join.claims, Fl_Join.mix, Fl_Join.sums, Fl_Join.np, Fl_Join.nc, Fl_Join.sent, Fl_Join.throws, Fl_Join.claim, Fl_JoinAnswerer.p, Fl_JoinAnswerer.table, Fl_JoinAnswerer.points, Fl_JoinAnswerer.near, exists_eq_left', Option.some.injEq, true_and, and_true])))

/-! ### the join's honest answerer -/
def nearS (pts : List (List Int)) (mix p : Int) (n : Nat) : List Int := (List.range n).map fun k : Nat => mixV (pts.map fun x => gi (pointT x p) (k : Nat)) mix p
def joinP (nr tab : List Int) (p : Int) : List Int := (List.range 3).map fun t : Nat => (((List.range (foldS p nr (t : Nat)).length).map fun k : Nat => gi (foldS p nr (t : Nat)) (k : Nat) * gi (foldS p tab (t : Nat)) (k : Nat)).sum) % p
def C_JoinAnswerer_init : DC := fun ds m Φ _ => ∃ (k : Nat) (p : Int) (tab : List Int) (pts : List (List Int)), ds = [.hnd k, .int p, .lst (tab.map D.int), .lst (pts.map intL)] ∧ m.M[k]? = some (.ins "JoinAnswerer" []) ∧ pts.length ≤ 1000 ∧ Φ .non ⟨m.M.set k (.ins "JoinAnswerer" (jaF p tab pts none)), m.s⟩
def W_JoinAnswerer_init (fl : String → List String) : DS := dSeq (dSetF (fl "p") "p" (dVar 1) (dVar 0)) (dSeq (dSetF (fl "table") "table" (dCB cList (dCons (dVar 2) (dNil))) (dVar 0)) (dSeq (dSetF (fl "points") "points" (dLc (diList (dVar 3)) (dgName 4) (dYes) (dCB cList (dCons (dVar 4) (dNil))) [4]) (dVar 0)) (dSetF (fl "near") "near" (dC .non) (dVar 0))))
theorem rd_JoinAnswerer_init {fl : String → List String} (F : Fl_JoinAnswerer fl) : ∀ ds m Φ Ψ, ds.length = 4 → C_JoinAnswerer_init ds m Φ Ψ → W_JoinAnswerer_init fl { nx := fun _ m' => Φ .non m', rt := Φ } (fun _ => Ψ) (ds.map some ++ List.replicate (5 - ds.length) none) m := by
  intro ds m Φ Ψ _ h
  obtain ⟨k, p, tab, pts, rfl, ob, hl, q⟩ := h
  have hk := getLt ob
  have g1 : ∀ o, (m.M.set k o)[k]? = some o := fun o => List.getElem?_set_self hk
  have g2 : ∀ o1 o2 : MO, (m.M.set k o1).set k o2 = m.M.set k o2 := fun o1 o2 => List.set_set ..
  change W_JoinAnswerer_init fl _ _ [some (.hnd k), some (.int p), some (.lst (tab.map D.int)), some (.lst (pts.map intL)), none] m
  unfold W_JoinAnswerer_init
  walk_at "stp"
  walk_at "jg"
  refine ⟨by decide, ?_⟩
  walk_at "nxt"
  walk_at "jg"
  refine ⟨by simp [putD], ?_⟩
  walk_at "nxt"
  refine lcW_fnM (inj := intL) (out := intL) (fun x : List Int => x) _ pts ?_ (fun y => clD_pl _ (plD_ints y)) (by show _ ≤ 16777216; omega) ?_
  · intro x hx acc Θ hΘ
    rw [show intL x = .lst (x.map D.int) from rfl]
    walk_at "dx"
    exact hΘ
  rw [List.map_id']
  walk_at "jg"
  refine ⟨by simp [putD], ?_⟩
  walk_at "lst"
  walk_at "jg"
  refine ⟨by simp [putD], ?_⟩
  have e : putD "near" D.non (putD "points" (.lst (pts.map intL)) (putD "table" (.lst (tab.map D.int)) (putD "p" (D.int p) []))) = jaF p tab pts none := by
    simp [putD, jaF, onL]
  rw [e]
  exact q
structure JaOK (m : MM) (k : Nat) (p : Int) (tab : List Int) (pts : List (List Int)) (near : Option (List Int)) : Prop where
  ob : m.M[k]? = some (.ins "JoinAnswerer" (jaF p tab pts near))
  pm : PM p
  tin : InP p tab
  tl : tab.length ≤ 65536
  nin : ∀ nr, near = some nr → InP p nr ∧ nr.length = tab.length
def C_JoinAnswerer_value : DC := fun ds m Φ _ => ∃ (k : Nat) (p : Int) (tab : List Int) (pts : List (List Int)) (near : Option (List Int)), ds = [.hnd k] ∧ JaOK m k p tab pts near ∧ 0 < tab.length ∧ Φ (.int (gi tab 0)) m
def W_JoinAnswerer_value (fl : String → List String) : DS := dRet (dOp oIx (dFld (fl "table") "table" (dVar 0)) (dC (.int 0)))
theorem rd_JoinAnswerer_value {fl : String → List String} (F : Fl_JoinAnswerer fl) : ∀ ds m Φ Ψ, ds.length = 1 → C_JoinAnswerer_value ds m Φ Ψ → W_JoinAnswerer_value fl { nx := fun _ m' => Φ .non m', rt := Φ } (fun _ => Ψ) (ds.map some ++ List.replicate (1 - ds.length) none) m := by
  intro ds m Φ Ψ _ h
  obtain ⟨k, p, tab, pts, near, rfl, a, h0, q⟩ := h
  have ob := a.ob
  have obs := ob
  change W_JoinAnswerer_value fl _ _ [some (.hnd k)] m
  unfold W_JoinAnswerer_value
  walk_at "jn"
  walk_at "dx"
  exact ⟨_, atI_gi (by decide) (by omega), q⟩
def C_JoinAnswerer_throw : DC := fun ds m Φ _ => ∃ (k : Nat) (t p : Int) (tab : List Int) (pts : List (List Int)) (near : Option (List Int)), ds = [.hnd k, .int t] ∧ JaOK m k p tab pts near ∧ 0 ≤ t ∧ t < p ∧ pts.length ≤ 1000 ∧
  (near = none → (∀ x ∈ pts, InP p x ∧ x.length ≤ 16 ∧ tab.length ≤ 2 ^ x.length) ∧ Φ .non ⟨m.M.set k (.ins "JoinAnswerer" (jaF p tab pts (some (nearS pts t p tab.length)))), m.s⟩) ∧
  (∀ nr, near = some nr → Φ .non ⟨m.M.set k (.ins "JoinAnswerer" (jaF p (foldS p tab t) pts (some (foldS p nr t)))), m.s⟩)
def W_JoinAnswerer_throw (fl : String → List String) : DS := dSeq (dSet 2 (dFld (fl "p") "p" (dVar 0))) (dIf (dB (dOp oIsN (dFld (fl "near") "near" (dVar 0)) (dC .non))) (dSeq (dSet 3 (dLc (diList (dFld (fl "points") "points" (dVar 0))) (dgName 4) (dYes) (dCall 2 C_point_table (dCons (dVar 4) (dCons (dVar 2) (dNil)))) [4])) (dSetF (fl "near") "near" (dLc (diRng1 (dCons (dCB cLen (dCons (dFld (fl "table") "table" (dVar 0)) (dNil))) (dNil))) (dgName 5) (dYes) (dCall 3 C_mixed (dCons (dLc (diList (dVar 3)) (dgName 6) (dYes) (dOp oIx (dVar 6) (dVar 5)) [6]) (dCons (dVar 1) (dCons (dVar 2) (dNil))))) [5]) (dVar 0))) (dSeq (dSetF (fl "near") "near" (dCall 3 C_fold (dCons (dFld (fl "near") "near" (dVar 0)) (dCons (dVar 1) (dCons (dVar 2) (dNil))))) (dVar 0)) (dSetF (fl "table") "table" (dCall 3 C_fold (dCons (dFld (fl "table") "table" (dVar 0)) (dCons (dVar 1) (dCons (dVar 2) (dNil))))) (dVar 0))))
theorem rd_JoinAnswerer_throw {fl : String → List String} (F : Fl_JoinAnswerer fl) : ∀ ds m Φ Ψ, ds.length = 2 → C_JoinAnswerer_throw ds m Φ Ψ → W_JoinAnswerer_throw fl { nx := fun _ m' => Φ .non m', rt := Φ } (fun _ => Ψ) (ds.map some ++ List.replicate (7 - ds.length) none) m := by
  intro ds m Φ Ψ _ h
  obtain ⟨k, t, p, tab, pts, near, rfl, a, t0, t1, pl, q1, q2⟩ := h
  have ob := a.ob
  have obs := ob
  have hk := getLt ob
  have hp := a.pm
  have hp1 := hp.1
  have hp2 := hp.2
  have tl := a.tl
  have obA := fun L => obApp ob L
  have g1 : ∀ o, (m.M.set k o)[k]? = some o := fun o => List.getElem?_set_self hk
  have g2 : ∀ o1 o2 : MO, (m.M.set k o1).set k o2 = m.M.set k o2 := fun o1 o2 => List.set_set ..
  change W_JoinAnswerer_throw fl _ _ [some (.hnd k), some (.int t), none, none, none, none, none] m
  unfold W_JoinAnswerer_throw
  walk_at "stp"
  walk_at "jn"
  walk_at "lst"
  walk_at "jn"
  cases near with
  | none =>
    obtain ⟨hx, q⟩ := q1 rfl
    walk_at "jn"
    refine lcW_fn (inj := intL) (out := intL) (fun x : List Int => pointT x p) _ pts ?_ (fun y => clD_pl _ (plD_ints y)) (by show _ ≤ 16777216; omega) ?_
    · intro x hx2 m2 Θ hΘ
      rw [show intL x = .lst (x.map D.int) from rfl]
      walk_at "dx"
      exact ⟨x, p, rfl, hp, (hx x hx2).2.1, hΘ⟩
    walk_at "jn"
    walk_at "dx"
    refine ⟨⟨by omega, by omega⟩, ?_⟩
    rw [rngD0, Int.toNat_natCast]
    refine lcW_fnM (inj := fun i : Nat => D.int (i : Nat)) (out := D.int) (fun i : Nat => mixV (pts.map fun x => gi (pointT x p) (i : Nat)) t p) _ (List.range tab.length) ?_ (fun _ => rfl) (by rw [List.length_range]; show _ ≤ 16777216; omega) ?_
    · intro i hi acc Θ hΘ
      have hi := List.mem_range.mp hi
      walk_at "dx"
      rw [List.map_map]
      refine lcW_fn (inj := fun x : List Int => intL (pointT x p)) (out := D.int) (fun x : List Int => gi (pointT x p) (i : Nat)) _ pts ?_ (fun _ => rfl) (by show _ ≤ 16777216; omega) ?_
      · intro x hx2 m2 Θ2 hΘ2
        have h2 := (hx x hx2).2.2
        rw [show intL (pointT x p) = .lst ((pointT x p).map D.int) from rfl]
        walk_at "dx"
        exact ⟨_, atI_gi (by omega) (by rw [pointT_len]; omega), hΘ2⟩
      walk_at "dx"
      exact ⟨_, t, p, rfl, hp, ⟨t0, t1⟩, hΘ⟩
    walk_at "jn"
    exact ⟨by show 4 < 1000; decide, q⟩
  | some nr =>
    obtain ⟨nin, nl⟩ := a.nin nr rfl
    walk_at "jn"
    refine ⟨nr, t, p, rfl, hp, nin, by omega, ?_⟩
    walk_at "jn"
    refine ⟨by show 4 < 1000; decide, ?_⟩
    simp only [g1, moI_ins]
    rw [show putD "near" (.lst ((foldS p nr t).map D.int)) (jaF p tab pts (some nr)) = jaF p tab pts (some (foldS p nr t)) from rfl]
    walk_at "jn"
    refine ⟨tab, t, p, rfl, hp, a.tin, by omega, ?_⟩
    simp only [g1, g2, moI_ins]
    exact ⟨F.table, by show 4 < 1000; decide, q2 nr rfl⟩
def C_JoinAnswerer_poly : DC := fun ds m Φ _ => ∃ (k : Nat) (p : Int) (tab : List Int) (pts : List (List Int)) (nr : List Int), ds = [.hnd k] ∧ JaOK m k p tab pts (some nr) ∧ Φ (.lst ((joinP nr tab p).map D.int)) m
def W_JoinAnswerer_poly (fl : String → List String) : DS := dSeq (dSet 1 (dFld (fl "p") "p" (dVar 0))) (dSeq (dSet 2 (dLstM (dNil))) (dSeq (dFor (diRng1 (dCons (dC (.int 3)) (dNil))) (dgName 3) (dSeq (dSet 4 (dCall 3 C_fold (dCons (dFld (fl "near") "near" (dVar 0)) (dCons (dVar 3) (dCons (dVar 1) (dNil)))))) (dSeq (dSet 5 (dCall 3 C_fold (dCons (dFld (fl "table") "table" (dVar 0)) (dCons (dVar 3) (dCons (dVar 1) (dNil)))))) (dDrop (dMethL oApp (dVar 2) (dCons (dOp oMod (dCB cSum (dCons (dLc (diRng1 (dCons (dCB cLen (dCons (dVar 4) (dNil))) (dNil))) (dgName 6) (dYes) (dOp oMul (dOp oIx (dVar 4) (dVar 6)) (dOp oIx (dVar 5) (dVar 6))) [6]) (dNil))) (dVar 1)) (dNil))))))) (dRet (dVar 2))))
theorem rd_JoinAnswerer_poly {fl : String → List String} (F : Fl_JoinAnswerer fl) : ∀ ds m Φ Ψ, ds.length = 1 → C_JoinAnswerer_poly ds m Φ Ψ → W_JoinAnswerer_poly fl { nx := fun _ m' => retQ m Φ .non m', rt := retQ m Φ } (fun _ => retX m Ψ) (ds.map some ++ List.replicate (7 - ds.length) none) m := by
  intro ds m Φ Ψ _ h
  obtain ⟨k, p, tab, pts, nr, rfl, a, q⟩ := h
  have ob := a.ob
  have obs := ob
  have hk := getLt ob
  have hp := a.pm
  have hp1 := hp.1
  have hp2 := hp.2
  have tl := a.tl
  obtain ⟨nin, nl⟩ := a.nin nr rfl
  have obA := fun L => obApp ob L
  change W_JoinAnswerer_poly fl _ _ [some (.hnd k), none, none, none, none, none, none] m
  unfold W_JoinAnswerer_poly
  walk_at "stp"
  walk_at "jn"
  walk_at "nxt"
  refine ⟨by decide, ?_⟩
  walk_at "nxt"
  refine ⟨⟨by decide, by decide⟩, ?_⟩
  rw [rngD0, show ((3 : Int)).toNat = 3 from rfl]
  refine forW_nat (fun i ρ m' => ∃ (v3 v4 v5 v6 : Option D), ρ = [some (.hnd k), some (.int p), some (.hnd m.M.length), v3, v4, v5, v6] ∧ m' = ⟨m.M ++ [MO.lst (((List.range i).map fun t : Nat => (((List.range (foldS p nr (t : Nat)).length).map fun k : Nat => gi (foldS p nr (t : Nat)) (k : Nat) * gi (foldS p tab (t : Nat)) (k : Nat)).sum) % p).map D.int)], m.s⟩) ?_ ?_ ⟨_, _, _, _, rfl, rfl⟩
  · rintro i kk hi hkk ρ m' ⟨v3, v4, v5, v6, rfl, rfl⟩
    clear h1
    walk_at "stp"
    simp only [obA, moI_ins]
    walk_at "jn"
    refine ⟨nr, (i : Nat), p, rfl, hp, nin, by omega, ?_⟩
    walk_at "nxt"
    simp only [obA, moI_ins]
    walk_at "jn"
    refine ⟨tab, (i : Nat), p, rfl, hp, a.tin, by omega, ?_⟩
    walk_at "lst"
    have fl1 := foldS_len (p := p) (x := (i : Nat)) (t := nr)
    have fl2 := foldS_len (p := p) (x := (i : Nat)) (t := tab)
    have fi1 := foldS_in (p := p) (x := (i : Nat)) hp1 (t := nr)
    have fi2 := foldS_in (p := p) (x := (i : Nat)) hp1 (t := tab)
    refine ⟨⟨by omega, by omega⟩, ?_⟩
    rw [rngD0, Int.toNat_natCast]
    refine lcW_fn (inj := fun i : Nat => D.int (i : Nat)) (out := D.int) (fun k : Nat => gi (foldS p nr (i : Nat)) (k : Nat) * gi (foldS p tab (i : Nat)) (k : Nat)) _ (List.range (foldS p nr (i : Nat)).length) ?_ (fun _ => rfl) (by rw [List.length_range]; show _ ≤ 16777216; omega) ?_
    · intro j hj m2 Θ hΘ
      have hj := List.mem_range.mp hj
      walk_at "dx"
      refine ⟨_, atI_gi (by omega) (by omega), _, atI_gi (by omega) (by omega), ?_⟩
      walk_at "dx"
      have := fi1.gN (i := j) (by omega)
      exact ⟨mulL this.1 (by omega), hΘ⟩
    walk_at "dx"
    refine ⟨_, ints_map _, ?_⟩
    walk_at "dx"
    refine ⟨by omega, by rw [List.length_range]; show i < 16777216; omega, ?_⟩
    refine hkk _ _ ⟨_, _, _, _, rfl, ?_⟩
    rw [List.range_succ, List.map_append, List.map_append]
    rfl
  · rintro ρ m' ⟨v3, v4, v5, v6, rfl, rfl⟩
    walk_at "lst"
    exact ⟨m.M, _, _, rfl, kept.rfl, .inr ⟨0, _, rfl, rfl, rfl⟩, clAll_ints _, q⟩
/-! ### the laws' own mix -/
def C__law_mixed : DC := fun ds m Φ _ => ∃ (ns : List Int) (x p : Int), ds = [.lst (ns.map D.int), .int x, .int p] ∧ PM p ∧ InP p ns ∧ (0 ≤ x ∧ x < p) ∧ Φ (.int (mixV ns x p)) m
def W__law_mixed : DS := dSeq (dSet 3 (dC (.int 0))) (dSeq (dSet 4 (dC (.int 1))) (dSeq (dFor (diList (dVar 0)) (dgName 5) (dSeq (dSet 3 (dOp oMod (dCB cInt (dCons (dOp oAdd (dVar 3) (dOp oMul (dVar 5) (dVar 4))) (dNil))) (dVar 2))) (dSet 4 (dOp oMod (dCB cInt (dCons (dOp oMul (dVar 4) (dVar 1)) (dNil))) (dVar 2))))) (dRet (dVar 3))))
theorem rd__law_mixed : ∀ ds m Φ Ψ, ds.length = 3 → C__law_mixed ds m Φ Ψ → W__law_mixed { nx := fun _ m' => Φ .non m', rt := Φ } (fun _ => Ψ) (ds.map some ++ List.replicate (6 - ds.length) none) m := by
  intro ds m Φ Ψ _ h
  obtain ⟨ns, x, p, rfl, hp, nin, hx, q⟩ := h
  have hp1 := hp.1
  have hp2 := hp.2
  change W__law_mixed _ _ [some (.lst (ns.map D.int)), some (.int x), some (.int p), none, none, none] m
  unfold W__law_mixed
  walk_at "stp"
  walk_at "nxt"
  walk_at "nxt"
  refine forW_map (inj := D.int) (fun r ρ m' => ∃ (tot pw : Int) (v5 : Option D), (0 ≤ tot ∧ tot < p) ∧ (0 ≤ pw ∧ pw < p) ∧ InP p r ∧ Cg p (tot + pw * pev r x) (pev ns x) ∧ ρ = [some (.lst (ns.map D.int)), some (.int x), some (.int p), some (.int tot), some (.int pw), v5] ∧ m' = m) ?_ ?_ ns _ _ ⟨0, 1, none, ⟨by omega, by omega⟩, ⟨by omega, by omega⟩, nin, .of_eq (by omega), rfl, rfl⟩
  · rintro z r kk hkk ρ m' ⟨tot, pw, v5, ht, hw, hr, hc, rfl, rfl⟩
    clear h1
    walk_at "stp"
    refine ⟨mulR hw.1 (by omega), by omega, ?_⟩
    walk_at "lst"
    refine ⟨mulL hw.1 (by omega), by omega, ?_⟩
    refine hkk _ _ ⟨_, _, _, mod_in hp1, mod_in hp1, fun y hy => hr y (List.mem_cons_of_mem _ hy), ?_, rfl, rfl⟩
    refine (Cg.add Cg.mod (Cg.mod.mul .refl)).trans (Cg.trans (.of_eq ?_) hc)
    show tot + z * pw + pw * x * pev r x = tot + pw * (z + x * pev r x)
    grind
  · rintro ρ m' ⟨tot, pw, v5, ht, hw, hr, hc, rfl, rfl⟩
    walk_at "lst"
    have e : tot = mixV ns x p := by
      have z : Cg p tot (pev ns x) := Cg.trans (.of_eq (by show tot = tot + pw * 0; omega)) hc
      rw [mixV_pev, ← show tot % p = pev ns x % p from z, Int.emod_eq_of_lt ht.1 ht.2]
    rw [e]
    exact q
theorem nrF_L {p : Int} (hp : 2 ≤ p) {a b : List Int} (h : a.length = b.length) : nearL p a b a.length = nrF p b 0 a (1 % p) := by
  have h1 := nearL_cg (p := p) h
  have h2 := near_cg (p := p) h
  exact Cg.eq (h1.trans h2.symm) (nearL_in hp _) (nrF_in hp _ _ _ (mod_in hp))
def C__law_weight : DC := fun ds m Φ _ => ∃ (pts : List (List Int)) (mix p : Int) (sp : List Int), ds = [.lst (pts.map intL), .int mix, .lst (sp.map D.int), .int p] ∧ PM p ∧ (∀ x ∈ pts, InP p x ∧ x.length = sp.length) ∧ pts.length ≤ 1000 ∧ sp.length ≤ 1000 ∧ InP p sp ∧ (0 ≤ mix ∧ mix < p) ∧ Φ (.int (mixV (pts.map fun x => nrF p sp 0 x (1 % p)) mix p)) m
def W__law_weight : DS := dRet (dCall 3 C__law_mixed (dCons (dLc (diList (dVar 0)) (dgName 4) (dYes) (dCall 3 C__law_near__2 (dCons (dVar 4) (dCons (dVar 2) (dCons (dVar 3) (dNil))))) [4]) (dCons (dVar 1) (dCons (dVar 3) (dNil)))))
theorem rd__law_weight : ∀ ds m Φ Ψ, ds.length = 4 → C__law_weight ds m Φ Ψ → W__law_weight { nx := fun _ m' => Φ .non m', rt := Φ } (fun _ => Ψ) (ds.map some ++ List.replicate (5 - ds.length) none) m := by
  intro ds m Φ Ψ _ h
  obtain ⟨pts, mix, p, sp, rfl, hp, hpt, pl, s1000, hs, hm, q⟩ := h
  have hp1 := hp.1
  change W__law_weight _ _ [some (.lst (pts.map intL)), some (.int mix), some (.lst (sp.map D.int)), some (.int p), none] m
  unfold W__law_weight
  walk_at "dx"
  refine lcW_fn (inj := intL) (out := D.int) (fun x : List Int => nrF p sp 0 x (1 % p)) _ pts ?_ (fun _ => rfl) (by show _ ≤ 16777216; omega) ?_
  · intro x hx m2 Θ hΘ
    have h2 := hpt x hx
    rw [show intL x = .lst (x.map D.int) from rfl]
    walk_at "dx"
    refine ⟨x, sp, p, rfl, hp, h2.1, hs, h2.2, by omega, ?_⟩
    rw [nrF_L hp1 h2.2]
    exact hΘ
  walk_at "dx"
  refine ⟨_, mix, p, rfl, hp, fun y hy => ?_, hm, q⟩
  obtain ⟨x, _, rfl⟩ := List.mem_map.mp hy
  exact nrF_in hp1 _ _ _ (mod_in hp1)
theorem ne_obj {M : List MO} {i k : Nat} {a b : MO} (h1 : M[i]? = some a) (h2 : M[k]? = some b) (h : a ≠ b) : i ≠ k := fun e => by
  subst e
  rw [h1] at h2
  exact h (Option.some.inj h2)
theorem ins_ne {c d : String} {f g : List (String × D)} (h : c ≠ d) : MO.ins c f ≠ MO.ins d g := fun e => by
  injection e with e1
  exact h e1
theorem lst_ne {c : String} {f : List (String × D)} {l : List D} : MO.ins c f ≠ MO.lst l := fun e => by cases e
theorem JnB.sets {M : List MO} {s : Nat} {k ks j n : Nat} {p mix scl : Int} {pts : List (List Int)} {cl ths : List Int} {S : List Int} {nx : Option (List Int × Int)} (b : JnB ⟨M, s⟩ k ks j p pts cl mix scl ths none nx n) (hS : InP p S) (h0 : 0 < S.length) (h1 : S.length ≤ 1000) (h2 : (S.length : Int) ≤ p) :
    JnB ⟨M.set ks (.ins "SumAsker" (askF p scl (List.replicate n 2) j (some S))), s⟩ k ks j p pts cl mix scl ths (some S) nx n := by
  have n1 : ks ≠ k := ne_obj b.a.ob b.ob (ins_ne (by decide))
  have n2 : ks ≠ j := ne_obj b.a.ob b.a.th lst_ne
  have hk := getLt b.a.ob
  exact ⟨by show (M.set ks _)[k]? = _; rw [List.getElem?_set_ne n1]; exact b.ob, ⟨List.getElem?_set_self hk, by show (M.set ks _)[j]? = _; rw [List.getElem?_set_ne n2]; exact b.a.th, b.a.pm, b.a.pr, b.a.lt, b.a.ld, fun vs e => by injection e with e; subst e; exact ⟨hS, h1, h2, h0⟩⟩, b.hm, b.pin, b.pl, b.tin⟩
theorem JnB.thr {M : List MO} {s : Nat} {k ks j n : Nat} {p mix scl v z : Int} {pts : List (List Int)} {cl ths : List Int} {se : Option (List Int)} {nx : Option (List Int × Int)} (b : JnB ⟨M, s⟩ k ks j p pts cl mix scl ths se nx n) (hl : ths.length < n) (z0 : 0 ≤ z) (z1 : z < p) :
    JnB ⟨(M.set ks (.ins "SumAsker" (askF p v (List.replicate n 2) j none))).set j (.lst ((ths ++ [z]).map D.int)), s⟩ k ks j p pts cl mix v (ths ++ [z]) none nx n := by
  have n1 : ks ≠ k := ne_obj b.a.ob b.ob (ins_ne (by decide))
  have n2 : ks ≠ j := ne_obj b.a.ob b.a.th lst_ne
  have n3 : j ≠ k := fun e => ne_obj b.ob b.a.th lst_ne e.symm
  have hk := getLt b.a.ob
  have hj := getLt b.a.th
  refine ⟨?_, ⟨?_, List.getElem?_set_self (by rw [List.length_set]; exact hj), b.a.pm, b.a.pr, by rw [List.length_replicate, List.length_append]; exact hl, b.a.ld, fun vs e => by cases e⟩, b.hm, b.pin, b.pl, fun x hx => ?_⟩
  · show ((M.set ks _).set j _)[k]? = _
    rw [List.getElem?_set_ne n3, List.getElem?_set_ne n1]; exact b.ob
  · show ((M.set ks _).set j _)[ks]? = _
    rw [List.getElem?_set_ne (Ne.symm n2)]; exact List.getElem?_set_self hk
  · rcases List.mem_append.mp hx with y | y
    · exact b.tin x y
    · rw [List.mem_singleton.mp y]; exact ⟨z0, z1⟩
theorem JnB.oth {M : List MO} {s : Nat} {k ks j n ka : Nat} {p mix scl : Int} {pts : List (List Int)} {cl ths : List Int} {se : Option (List Int)} {nx : Option (List Int × Int)} {f g : List (String × D)} (b : JnB ⟨M, s⟩ k ks j p pts cl mix scl ths se nx n) (ha : M[ka]? = some (.ins "JoinAnswerer" f)) :
    JnB ⟨M.set ka (.ins "JoinAnswerer" g), s⟩ k ks j p pts cl mix scl ths se nx n := by
  have n1 : ka ≠ k := ne_obj ha b.ob (ins_ne (by decide))
  have n2 : ka ≠ ks := ne_obj ha b.a.ob (ins_ne (by decide))
  have n3 : ka ≠ j := ne_obj ha b.a.th lst_ne
  exact ⟨by show (M.set ka _)[k]? = _; rw [List.getElem?_set_ne n1]; exact b.ob, ⟨by show (M.set ka _)[ks]? = _; rw [List.getElem?_set_ne n2]; exact b.a.ob, by show (M.set ka _)[j]? = _; rw [List.getElem?_set_ne n3]; exact b.a.th, b.a.pm, b.a.pr, b.a.lt, b.a.ld, b.a.se⟩, b.hm, b.pin, b.pl, b.tin⟩
theorem JaOK.keep {M M' : List MO} {s s' : Nat} {k : Nat} {p : Int} {tab : List Int} {pts : List (List Int)} {near : Option (List Int)} (a : JaOK ⟨M, s⟩ k p tab pts near) (h : M'[k]? = M[k]?) : JaOK ⟨M', s'⟩ k p tab pts near :=
  ⟨by show M'[k]? = _; rw [h]; exact a.ob, a.pm, a.tin, a.tl, a.nin⟩
theorem joinP_in {nr tab : List Int} {p : Int} (hp : 2 ≤ p) : InP p (joinP nr tab p) := fun x hx => by
  obtain ⟨_, _, rfl⟩ := List.mem_map.mp hx
  exact mod_in hp
theorem joinP_len {nr tab : List Int} {p : Int} : (joinP nr tab p).length = 3 := by unfold joinP; rw [List.length_map, List.length_range]
end Dl

namespace Dl
open PySem L2
/-! ### plain law of joins -/
def tot2 (nr tab : List Int) (N : Nat) : Int := S N fun k => gi nr (k : Nat) * gi tab (k : Nat)
def tf2 (nr tab : List Int) (M : Nat) (z : Int) : Int := S M fun k => atN nr k z * atN tab k z
theorem tf2_corn {nr tab : List Int} : ∀ M : Nat, tf2 nr tab M 0 + tf2 nr tab M 1 = tot2 nr tab (2 * M)
  | 0 => rfl
  | M + 1 => by
    have ih := tf2_corn (nr := nr) (tab := tab) M
    have e : tot2 nr tab (2 * (M + 1)) = tot2 nr tab (2 * M) + gi nr ((2 * M : Nat) : Int) * gi tab ((2 * M : Nat) : Int) + gi nr ((2 * M + 1 : Nat) : Int) * gi tab ((2 * M + 1 : Nat) : Int) := rfl
    rw [e, ← ih]
    show S M (fun k => atN nr k 0 * atN tab k 0) + atN nr M 0 * atN tab M 0 + (S M (fun k => atN nr k 1 * atN tab k 1) + atN nr M 1 * atN tab M 1) = _
    have a0 : ∀ t : List Int, atN t M 0 = gi t ((2 * M : Nat) : Int) := fun t => by
      unfold atN
      rw [Int.zero_mul, Int.add_zero]
      rfl
    have a1 : ∀ t : List Int, atN t M 1 = gi t ((2 * M + 1 : Nat) : Int) := fun t => by
      unfold atN
      rw [Int.one_mul, show gi t (2 * (M : Nat)) + (gi t (2 * (M : Nat) + 1) - gi t (2 * (M : Nat))) = gi t (2 * (M : Nat) + 1) by omega]
      rfl
    rw [a0, a0, a1, a1]
    show _ = tf2 nr tab M 0 + tf2 nr tab M 1 + _ + _
    unfold tf2
    omega
theorem tf2_fold {p z : Int} {nr tab : List Int} {M : Nat} (h1 : nr.length = 2 * M) (h2 : tab.length = 2 * M) : Cg p (tot2 (foldS p nr z) (foldS p tab z) M) (tf2 nr tab M z) := by
  refine S_cg _ fun k hk => ?_
  rw [foldS_at (by omega), foldS_at (by omega)]
  exact Cg.mul .mod .mod
theorem atN_pol {p : Int} {t : List Int} {k : Nat} : Pol p 1 fun z => atN t k z := by
  have z := (Pol.const (p := p) (n := 0) 1).lin (gi t (2 * (k : Nat))) (gi t (2 * (k : Nat) + 1) - gi t (2 * (k : Nat)))
  refine z.congr fun z => .of_eq ?_
  unfold atN
  rw [Int.mul_one, Int.mul_comm z]
theorem pol_mul1 {p a b : Int} {n : Nat} {f : Int → Int} (h : Pol p n f) : Pol p (n + 1) fun z => (a + z * b) * f z := (h.lin a b).congr fun z => .of_eq (by rw [Int.mul_comm b z])
theorem tf2_pol {p : Int} {nr tab : List Int} {M : Nat} : Pol p 2 (tf2 nr tab M) := by
  refine Pol.sum (F := fun k z => atN nr k z * atN tab k z) M fun k hk => ?_
  have z := pol_mul1 (p := p) (a := gi nr (2 * (k : Nat))) (b := gi nr (2 * (k : Nat) + 1) - gi nr (2 * (k : Nat))) (atN_pol (p := p) (t := tab) (k := k))
  exact z
theorem joinP_at {p : Int} {nr tab : List Int} {M : Nat} (h1 : nr.length = 2 * M) (h2 : tab.length = 2 * M) : joinP nr tab p = (List.range 3).map fun t : Nat => tf2 nr tab M (t : Nat) % p := by
  unfold joinP
  refine List.map_congr_left fun t ht => ?_
  rw [sum_S, foldS_len, h1, show 2 * M / 2 = M by omega]
  exact tf2_fold h1 h2
theorem joinP_corn {p : Int} {nr tab : List Int} {M : Nat} (h1 : nr.length = 2 * M) (h2 : tab.length = 2 * M) : cornV (joinP nr tab p) p = tot2 nr tab (2 * M) % p := by
  rw [joinP_at h1 h2]
  show (tf2 nr tab M 0 % p + tf2 nr tab M 1 % p) % p = _
  rw [← tf2_corn]
  exact Cg.add .mod .mod
theorem joinP_val {p z : Int} (hp : 2 ≤ p) (P : Prim p) (p3 : 3 ≤ p) {nr tab : List Int} {M : Nat} (h1 : nr.length = 2 * M) (h2 : tab.length = 2 * M) (z0 : 0 ≤ z) : valV (joinP nr tab p) z p = tot2 (foldS p nr z) (foldS p tab z) M % p := by
  obtain ⟨cs, c1, c2⟩ := tf2_pol (p := p) (nr := nr) (tab := tab) (M := M)
  have e : joinP nr tab p = vals cs 3 p := by
    rw [joinP_at h1 h2]
    unfold vals
    exact List.map_congr_left fun t _ => c2 _
  rw [e, valV_pev P c1 (by decide) (by omega) z0]
  have a := c2 z
  have b := tf2_fold (p := p) (z := z) h1 h2
  exact (a.symm.trans b.symm)
theorem pev_mcg {p t : Int} {α : Type} {f g : α → Int} : ∀ xs : List α, (∀ x ∈ xs, Cg p (f x) (g x)) → Cg p (pev (xs.map f) t) (pev (xs.map g) t)
  | [], _ => .refl
  | x :: xs, h => Cg.add (h x List.mem_cons_self) (Cg.mul .refl (pev_mcg xs fun y hy => h y (List.mem_cons_of_mem _ hy)))
theorem pev_S {t : Int} {α : Type} {N : Nat} {w : Nat → Int} {F : α → Nat → Int} : ∀ xs : List α, S N (fun z => w z * pev (xs.map fun x => F x z) t) = pev (xs.map fun x => S N fun z => w z * F x z) t
  | [] => by
    show S N (fun z => w z * 0) = 0
    induction N with
    | zero => rfl
    | succ n ih => show S n _ + w n * 0 = 0; rw [ih]; omega
  | x :: xs => by
    have ih := pev_S (t := t) (N := N) (w := w) (F := F) xs
    show S N (fun z => w z * (F x z + t * pev (xs.map fun x => F x z) t)) = S N (fun z => w z * F x z) + t * pev (xs.map fun x => S N fun z => w z * F x z) t
    rw [← ih, ← S_mul, ← S_add]
    refine S_congr _ fun z _ => ?_
    rw [Int.mul_add, ← Int.mul_assoc, ← Int.mul_assoc, Int.mul_comm (w z) t]
theorem nearS_at {p mix : Int} {pts : List (List Int)} {n z : Nat} (hz : z < n) : Cg p (gi (nearS pts mix p n) (z : Nat)) (pev (pts.map fun x => gi (pointT x p) (z : Nat)) mix) := by
  unfold nearS
  rw [gi_mapr hz, mixV_pev]
  exact Cg.mod
/-- the mixed table at a point is the mixed nearness -/
theorem nearS_mle {p mix : Int} {pts : List (List Int)} {sp : List Int} (hx : ∀ x ∈ pts, x.length = sp.length) : Cg p (mle (nearS pts mix p (2 ^ sp.length)) sp) (mixV (pts.map fun x => nrF p sp 0 x (1 % p)) mix p) := by
  have a : Cg p (mle (nearS pts mix p (2 ^ sp.length)) sp) (S (2 ^ sp.length) fun z => wt sp z * pev (pts.map fun x => gi (pointT x p) (z : Nat)) mix) := S_cg _ fun z hz => Cg.mul .refl (nearS_at hz)
  rw [pev_S] at a
  refine a.trans ?_
  rw [mixV_pev]
  refine Cg.trans ?_ Cg.mod.symm
  refine pev_mcg _ fun x hxm => ?_
  have l := hx x hxm
  exact (mle_pointT (p := p) (g := x) (s := sp) l.symm).trans (near_cg l).symm
/-- the first claim -/
theorem nearS_tot {p mix : Int} {pts : List (List Int)} {tab : List Int} {n : Nat} (ht : tab.length = 2 ^ n) (hx : ∀ x ∈ pts, x.length = n) : mixV (pts.map fun x => mle tab x % p) mix p = tot2 (nearS pts mix p tab.length) tab (2 ^ n) % p := by
  rw [mixV_pev]
  have a : Cg p (tot2 (nearS pts mix p tab.length) tab (2 ^ n)) (S (2 ^ n) fun z => gi tab (z : Nat) * pev (pts.map fun x => gi (pointT x p) (z : Nat)) mix) := S_cg _ fun z hz => (Cg.of_eq (Int.mul_comm _ _)).trans (Cg.mul .refl (nearS_at (by omega)))
  rw [pev_S] at a
  refine Cg.trans ?_ a.symm
  refine pev_mcg _ fun x hxm => Cg.mod.trans ?_
  have l := hx x hxm
  unfold mle
  rw [l]
  refine S_cg _ fun z hz => (Cg.of_eq (Int.mul_comm _ _)).trans (Cg.mul .refl (pointT_at (by rw [l]; exact hz)).symm)
/-- an entry of a folded table -/
theorem fold_entry {p t : Int} {T before : List Int} {m k : Nat} (hT : T.length = 2 ^ (before.length + (1 + m))) (hk : k < 2 ^ m) : Cg p (mle T (before ++ [t] ++ corn k m)) (gi (foldS p (before.foldl (foldS p) T) t) (k : Nat)) := by
  rw [List.append_assoc]
  have e : [t] ++ corn k m = t :: corn k m := rfl
  rw [e]
  have hl : T.length = 2 ^ (before.length + (t :: corn k m).length) := by rw [hT, List.length_cons, corn_len, Nat.add_comm 1 m]
  have fl := foldl_len (p := p) before T (1 + m) hT
  refine (mle_app before _ T hl).trans ?_
  rw [mle_tcorn hk, foldS_at (by rw [fl, Nat.add_comm, Nat.pow_succ]; omega)]
  exact Cg.mod.symm
end Dl

namespace Dl
open PySem L2 PyProof.Rows
/-! ### a list as a test -/
section
variable {X : Cx} {E : WX}
def tL (K : PySem.W.Frag) (t : TE) : TT := fun σ H Q => t σ H fun x H1 => ∃ p xs, x = .ref p ∧ SqL K H1 p xs ∧ Q (!decide (xs.length = 0)) H1
theorem pt_list {e : Expr} {t : TE} (h : PE X e t) (he : ∀ whole, isTrue e X.env whole = (do let v ← whole; standAt e.pos; holding [v] (truthy v))) : PT X e (tL X.K t) := by
  refine ⟨fun pins s σ H Q I hw => ?_⟩
  refine PyProof.Rows.isTrue_plain (thn (h.run pins s σ H _ I hw) fun v s1 ⟨x, H1, I1, r1, q1⟩ => ?_) (he _)
  obtain ⟨p, xs, rfl, hq, q⟩ := q1
  cases r1
  obtain ⟨its, r', pl, hz⟩ := I1.list hq
  have hlen := r'.length
  have hn := line63
  refine wpAny_truthy_list pl.isList (by simp only [List.size_toArray] <;> omega) ⟨H1, I1.tok _, ?_⟩
  have e : (!its.toArray.isEmpty) = !decide (xs.length = 0) := by
    rw [List.isEmpty_toArray]
    cases its with
    | nil => rw [hlen]; rfl
    | cons a b => rw [hlen]; rfl
  rw [e]
  exact q
def dBL (W : DE) : DT := fun ρ m Φ Ψ => W ρ m (fun d m1 => match asL m1 d with
  | some ds => Φ (!decide (ds.length = 0)) m1
  | none => False) Ψ
theorem dBL_ok {W : DE} {σ : L2.St} {H : Hp} {Q : Bool → Hp → Prop} (h : liftT X.K E (dBL W) σ H Q) : tL X.K (lift X.K E W) σ H Q := by
  obtain ⟨w, ρ, m, Ψ, Φ, a, vl, h⟩ := h
  refine ⟨w, ρ, m, Ψ, _, a, fun d m1 w1 H1 v l1 h1 r1 q1 => ?_, h⟩
  split at q1
  · rename_i ds e
    obtain ⟨p, xs, rfl, hq, ra⟩ := asL_ok h1 e r1
    exact ⟨p, xs, rfl, hq, by rw [ra.length]; exact vl _ m1 w1 H1 l1 h1 q1⟩
  · exact q1.elim
theorem jt_list {e : Expr} {W : DE} (h : JE X E e W) (he : ∀ whole, isTrue e X.env whole = (do let v ← whole; standAt e.pos; holding [v] (truthy v)) := by intro _; rfl) : JT X E e (dBL W) :=
  PT.imp (pt_list h he) fun _ _ _ h => dBL_ok h
end
end Dl

namespace K68
open PySem L2 Dl
local macro_rules | `(tactic| walk_at "dl") => `(tactic| try simp only [dSeq, dSet, dRaise_one, dRaise_two, dTryAs, dXf, dIsE, List.lookup_cons, List.lookup_nil, beq_self_eq_true, Bool.false_eq_true, if_false, dOp, dUn, dVar, dC, dCB, dCons, dNil, dRet, dRetN, dIf, dB, dAnd, dOr, dNot, dDrop, dNext, dMethL, dSetIx, dAndV, dOrV, dNotV, dBlV, dIfE, dLst, dTup, dLstM, dCall, dChain, dAsg, dgName, dgTup, bindD, asT, dFor, diList, diRng1, diRng2, diEnumerate, diZip, diReversed, dLc, dLcM, dYes, wipeD, dAug, dSl, dSlT, dpN, dpS,
  oI, oI0, oB0, oAdd, oNeg, oEq, oNe, oIx, oIsN, oNotN, isNon, oShl, oApp, oPop, oPopAt, cLen, cInt, cAbs, cSum, cMax2, cMin2, cList, cIsi, tyD, asL, asF, asK, moL_lst, ModC, DivC,
  List.getElem?_cons_zero, List.getElem?_cons_succ, List.set_cons_zero, List.set_cons_succ, List.getElem?_nil, List.length_cons, List.length_nil, List.length_map, Option.map_some, Option.bind_some, Option.isSome_some, if_true, true_and, and_true, MM.push])
local macro_rules | `(tactic| walk_at "dx") => `(tactic| try simp only [eq_self_iff_true, okE_int, okE_bl, okE_non, eqD_int, eqD_bl, kq_NoneType_int, kq_NoneType_bool, kq_NoneType_list, kq_NoneType_tuple, kq_NoneType_str, kq_bool_int, kq_bool_bool, kq_bool_list, kq_bool_tuple, kq_bool_str, kq_int_int, kq_int_bool, kq_int_list, kq_int_tuple, kq_int_str, kq_str_int, kq_str_bool, kq_str_list, kq_str_tuple, kq_str_str, kq_list_int, kq_list_bool, kq_list_list, kq_list_tuple, kq_list_str, kq_tuple_int, kq_tuple_bool, kq_tuple_list, kq_tuple_tuple, kq_tuple_str, oInL, oIsB, oNotB, oEqH, oNeH, oShr, oExt, cMaxL, cMinL, cAny, cAll, cTuple, cListM, dRevL, dFld, dSetF, dAugF, dMeth, dMake, moI_ins, app_len, set_app, List.contains_cons, List.contains_nil, Bool.true_or,  Bool.true_eq_false, decide_true, not_true_eq_false, not_false_eq_true, Bool.not_true, Bool.not_false, decide_eq_true_eq, Bool.not_eq_true', decide_eq_false_iff_not, dSeq, dSet, dRaise_one, dRaise_two, dTryAs, dXf, dIsE, List.lookup_cons, List.lookup_nil, beq_self_eq_true, Bool.false_eq_true, if_false, dOp, dUn, dVar, dC, dCB, dCons, dNil, dRet, dRetN, dIf, dB, dAnd, dOr, dNot, dDrop, dNext, dMethL, dSetIx, dAndV, dOrV, dNotV, dBlV, dIfE, dLst, dTup, dLstM, dCall, dChain, dAsg, dgName, dgTup, bindD, asT, dFor, diList, diRng1, diRng2, diEnumerate, diZip, diReversed, dLc, dLcM, dYes, wipeD, dAug, dSl, dSlT, dpN, dpS,
  oI, oI0, oB0, oAdd, oNeg, oEq, oNe, oIx, oIsN, oNotN, isNon, oShl, oApp, oPop, oPopAt, cLen, cInt, cAbs, cSum, cMax2, cMin2, cList, cIsi, tyD, asL, asF, asK, moL_lst, ModC, DivC,
  List.getElem?_cons_zero, List.getElem?_cons_succ, List.set_cons_zero, List.set_cons_succ, List.getElem?_nil, List.length_cons, List.length_nil, List.length_map, Option.map_some, Option.bind_some, Option.isSome_some, if_true, true_and, and_true, MM.push])
local macro_rules | `(tactic| walk_at "lim") => `(tactic| repeat (first | (refine ⟨by decide, ?_⟩) | (refine ⟨by (try simp only [List.length_map, List.length_dropLast, List.length_append, List.length_cons, List.length_nil, List.length_replicate, List.length_take, List.length_drop, List.length_range]); (show _ ≤ 16777216); omega, ?_⟩)))

set_option hygiene false in
local macro_rules | `(tactic| walk_at "stp") => `(tactic| (refine dSeq_k fun k1 h1 => ?_; walk_at "dx"))
set_option hygiene false in
local macro_rules | `(tactic| walk_at "nxt") => `(tactic| (subst h1; (try dsimp only); refine dSeq_k fun k1 h1 => ?_; walk_at "dx"))
set_option hygiene false in
local macro_rules | `(tactic| walk_at "lst") => `(tactic| (subst h1; (try dsimp only); walk_at "dx"))
set_option hygiene false in
local macro_rules | `(tactic| walk_at "nxt2") => `(tactic| (subst h2; (try dsimp only); refine dSeq_k fun k2 h2 => ?_; walk_at "dx"))
set_option hygiene false in
local macro_rules | `(tactic| walk_at "stp2") => `(tactic| (refine dSeq_k fun k2 h2 => ?_; walk_at "dx"))
set_option hygiene false in
local macro_rules | `(tactic| walk_at "lst2") => `(tactic| (subst h2; (try dsimp only); walk_at "dx"))

def JSt (m : MM) (k n : Nat) (p : Int) (pts : List (List Int)) (cl : List Int) (w : String) : Prop := (JnA m k p pts cl n ∧ w = "throw") ∨
  ∃ (ks j : Nat) (mix scl : Int) (ths : List Int) (sent : Option (List Int)) (nx : Option (List Int × Int)), JnB m k ks j p pts cl mix scl ths sent nx n ∧ w = wantS sent (decide (ths.length = n)) nx
def C__law_step : DC := fun ds m Φ _ => ∃ (k n : Nat) (p : Int) (pts : List (List Int)) (cl : List Int) (w step : String) (g : D), ds = [.hnd k, .str (PySem.Str.ofString step), g] ∧ JSt m k n p pts cl w ∧
  ((step = "throw" ∧ ∃ t : Int, g = .int t ∧ (w ≠ "throw" ∨ ¬ (0 ≤ t ∧ t < p))) ∨ (step = "polynomial" ∧ ∃ vs : List Int, g = .lst (vs.map D.int) ∧ vs.length ≤ 1000 ∧ w ≠ "polynomial") ∨ (step = "value" ∧ ∃ t : Int, g = .int t ∧ w ≠ "value")) ∧ Φ (.bl true) m
def C__law_wrong_steps : DC := fun ds m Φ _ => ∃ (k n : Nat) (p : Int) (pts : List (List Int)) (cl : List Int) (w : String), ds = [.hnd k, .str (PySem.Str.ofString w), .int p] ∧ JSt m k n p pts cl w ∧ Φ (.bl true) m
def C__law_join_poly : DC := fun ds m Φ _ => ∃ (tab : List Int) (pts : List (List Int)) (mix p : Int) (before : List Int) (n r : Nat), ds = [.lst (tab.map D.int), .lst (pts.map intL), .int mix, .lst (before.map D.int), .int p] ∧ PM p ∧ 3 ≤ p ∧ InP p tab ∧ tab.length = 2 ^ n ∧ n = before.length + (1 + r) ∧ n ≤ 3 ∧ InP p before ∧ 0 < pts.length ∧ pts.length ≤ 1000 ∧
  (∀ x ∈ pts, InP p x ∧ x.length = n) ∧ (0 ≤ mix ∧ mix < p) ∧ Φ (.lst ((joinP (before.foldl (foldS p) (nearS pts mix p tab.length)) (before.foldl (foldS p) tab) p).map D.int)) m
def polysF (zs nr tab : List Int) (p : Int) (n : Nat) : List (List Int) := (List.range n).map fun k => joinP ((zs.take k).foldl (foldS p) nr) ((zs.take k).foldl (foldS p) tab) p
def C_join_answers : DC := fun ds m Φ _ => ∃ (ka : Nat) (mix p : Int) (zs tab : List Int) (pts : List (List Int)), ds = [.hnd ka, .lst ((mix :: zs).map D.int)] ∧ JaOK m ka p tab pts none ∧ (0 ≤ mix ∧ mix < p) ∧ InP p zs ∧ tab.length = 2 ^ zs.length ∧ zs.length ≤ 10 ∧ pts.length ≤ 1000 ∧ (∀ x ∈ pts, InP p x ∧ x.length = zs.length) ∧
  ∀ f, Φ (.tup [.lst ((polysF zs (nearS pts mix p tab.length) tab p zs.length).map intL), .int (gi (zs.foldl (foldS p) tab) 0)]) ⟨m.M.set ka (.ins "JoinAnswerer" f), m.s⟩
def C__law_rounds : DC := fun ds m Φ _ => ∃ (kj ks jt ka n : Nat) (p mix : Int) (pts : List (List Int)) (cls tab nr : List Int), ds = [.st 1, .hnd kj, .hnd ka, .lst (tab.map D.int), .lst (pts.map intL), .int mix, .int p] ∧ m.s = 1 ∧ n ≤ 3 ∧ 5 ≤ p ∧ p ≤ 97 ∧ tab.length = 2 ^ n ∧ 0 < pts.length ∧ nr = nearS pts mix p tab.length ∧ JnB m kj ks jt p pts cls mix (tot2 nr tab (2 ^ n) % p) [] none none n ∧ JaOK m ka p tab pts (some nr) ∧
  ∀ (zs : List Int) (M' : List MO), zs.length = n → InP p zs → JnB ⟨M', 1⟩ kj ks jt p pts cls mix (tot2 (zs.foldl (foldS p) nr) (zs.foldl (foldS p) tab) 1 % p) zs none none n → JaOK ⟨M', 1⟩ ka p (zs.foldl (foldS p) tab) pts (some (zs.foldl (foldS p) nr)) → Φ (.lst (zs.map D.int)) ⟨M', 1⟩

def top (i : Nat) : Stmt := PySem.Challenge.pw_layerask_k68_joining_true_claims.main.body.getD i (.Pass ⟨0, 0, 0, 0⟩)
abbrev s_FieldError_init : Stmt := inClass (top 6) 0
theorem sc_FieldError_init : FnScope ["self", "number"] ["self", "number"] (defScope s_FieldError_init) := ⟨rfl, rfl, rfl, by decide +kernel, rfl, by decide +kernel, by decide +kernel⟩
abbrev s_TalkError_init : Stmt := inClass (top 7) 0
theorem sc_TalkError_init : FnScope ["self", "step"] ["self", "step"] (defScope s_TalkError_init) := ⟨rfl, rfl, rfl, by decide +kernel, rfl, by decide +kernel, by decide +kernel⟩
abbrev s_point_table : Stmt := top 1
theorem sc_point_table : FnScope ["point", "p", "table", "number", "low", "high", "entry"] ["point", "p"] (defScope s_point_table) := ⟨rfl, rfl, rfl, by decide +kernel, rfl, by decide +kernel, by decide +kernel⟩
abbrev s_fold : Stmt := top 2
theorem sc_fold : FnScope ["table", "number", "p", "half", "k"] ["table", "number", "p"] (defScope s_fold) := ⟨rfl, rfl, rfl, by decide +kernel, rfl, by decide +kernel, by decide +kernel⟩
abbrev s_nearness : Stmt := top 3
theorem sc_nearness : FnScope ["point", "other", "p", "result", "k", "number"] ["point", "other", "p"] (defScope s_nearness) := ⟨rfl, rfl, rfl, by decide +kernel, rfl, by decide +kernel, by decide +kernel⟩
abbrev s_power : Stmt := top 9
theorem sc_power : FnScope ["base", "exponent", "p", "result", "square"] ["base", "exponent", "p"] (defScope s_power) := ⟨rfl, rfl, rfl, by decide +kernel, rfl, by decide +kernel, by decide +kernel⟩
abbrev s_inverse : Stmt := top 10
theorem sc_inverse : FnScope ["number", "p"] ["number", "p"] (defScope s_inverse) := ⟨rfl, rfl, rfl, by decide +kernel, rfl, by decide +kernel, by decide +kernel⟩
abbrev s_is_number : Stmt := top 11
theorem sc_is_number : FnScope ["number", "p"] ["number", "p"] (defScope s_is_number) := ⟨rfl, rfl, rfl, by decide +kernel, rfl, by decide +kernel, by decide +kernel⟩
abbrev s_weights : Stmt := top 13
theorem sc_weights : FnScope ["many", "t", "p", "row", "k", "above", "below", "j"] ["many", "t", "p"] (defScope s_weights) := ⟨rfl, rfl, rfl, by decide +kernel, rfl, by decide +kernel, by decide +kernel⟩
abbrev s_value : Stmt := top 14
theorem sc_value : FnScope ["values", "t", "p", "total", "k", "weight"] ["values", "t", "p"] (defScope s_value) := ⟨rfl, rfl, rfl, by decide +kernel, rfl, by decide +kernel, by decide +kernel⟩
abbrev s_corners : Stmt := top 15
theorem sc_corners : FnScope ["values", "p"] ["values", "p"] (defScope s_corners) := ⟨rfl, rfl, rfl, by decide +kernel, rfl, by decide +kernel, by decide +kernel⟩
abbrev s_SumAsker_init : Stmt := inClass (top 17) 0
theorem sc_SumAsker_init : FnScope ["self", "p", "claim", "degrees"] ["self", "p", "claim", "degrees"] (defScope s_SumAsker_init) := ⟨rfl, rfl, rfl, by decide +kernel, rfl, by decide +kernel, by decide +kernel⟩
abbrev s_SumAsker_is_done : Stmt := inClass (top 17) 1
theorem sc_SumAsker_is_done : FnScope ["self"] ["self"] (defScope s_SumAsker_is_done) := ⟨rfl, rfl, rfl, by decide +kernel, rfl, by decide +kernel, by decide +kernel⟩
abbrev s_SumAsker_accept : Stmt := inClass (top 17) 2
theorem sc_SumAsker_accept : FnScope ["self", "values", "number"] ["self", "values"] (defScope s_SumAsker_accept) := ⟨rfl, rfl, rfl, by decide +kernel, rfl, by decide +kernel, by decide +kernel⟩
abbrev s_SumAsker_throw : Stmt := inClass (top 17) 3
theorem sc_SumAsker_throw : FnScope ["self", "number"] ["self", "number"] (defScope s_SumAsker_throw) := ⟨rfl, rfl, rfl, by decide +kernel, rfl, by decide +kernel, by decide +kernel⟩
abbrev s_mixed : Stmt := top 19
theorem sc_mixed : FnScope ["numbers", "mix", "p", "total", "number"] ["numbers", "mix", "p"] (defScope s_mixed) := ⟨rfl, rfl, rfl, by decide +kernel, rfl, by decide +kernel, by decide +kernel⟩
abbrev s_Join_init : Stmt := inClass (top 20) 0
theorem sc_Join_init : FnScope ["self", "p", "points", "claims", "point"] ["self", "p", "points", "claims"] (defScope s_Join_init) := ⟨rfl, rfl, rfl, by decide +kernel, rfl, by decide +kernel, by decide +kernel⟩
abbrev s_Join_wants : Stmt := inClass (top 20) 1
theorem sc_Join_wants : FnScope ["self"] ["self"] (defScope s_Join_wants) := ⟨rfl, rfl, rfl, by decide +kernel, rfl, by decide +kernel, by decide +kernel⟩
abbrev s_Join_throw : Stmt := inClass (top 20) 2
theorem sc_Join_throw : FnScope ["self", "number"] ["self", "number"] (defScope s_Join_throw) := ⟨rfl, rfl, rfl, by decide +kernel, rfl, by decide +kernel, by decide +kernel⟩
abbrev s_Join_answer : Stmt := inClass (top 20) 3
theorem sc_Join_answer : FnScope ["self", "values"] ["self", "values"] (defScope s_Join_answer) := ⟨rfl, rfl, rfl, by decide +kernel, rfl, by decide +kernel, by decide +kernel⟩
abbrev s_Join_answer_value : Stmt := inClass (top 20) 4
theorem sc_Join_answer_value : FnScope ["self", "number", "point", "near", "other"] ["self", "number"] (defScope s_Join_answer_value) := ⟨rfl, rfl, rfl, by decide +kernel, rfl, by decide +kernel, by decide +kernel⟩
abbrev s_JoinAnswerer_init : Stmt := inClass (top 21) 0
theorem sc_JoinAnswerer_init : FnScope ["self", "p", "table", "points", "point"] ["self", "p", "table", "points"] (defScope s_JoinAnswerer_init) := ⟨rfl, rfl, rfl, by decide +kernel, rfl, by decide +kernel, by decide +kernel⟩
abbrev s_JoinAnswerer_throw : Stmt := inClass (top 21) 1
theorem sc_JoinAnswerer_throw : FnScope ["self", "number", "p", "tables", "point", "k", "table"] ["self", "number"] (defScope s_JoinAnswerer_throw) := ⟨rfl, rfl, rfl, by decide +kernel, rfl, by decide +kernel, by decide +kernel⟩
abbrev s_JoinAnswerer_poly : Stmt := inClass (top 21) 2
theorem sc_JoinAnswerer_poly : FnScope ["self", "p", "found", "t", "near", "table", "k"] ["self"] (defScope s_JoinAnswerer_poly) := ⟨rfl, rfl, rfl, by decide +kernel, rfl, by decide +kernel, by decide +kernel⟩
abbrev s_JoinAnswerer_value : Stmt := inClass (top 21) 3
theorem sc_JoinAnswerer_value : FnScope ["self"] ["self"] (defScope s_JoinAnswerer_value) := ⟨rfl, rfl, rfl, by decide +kernel, rfl, by decide +kernel, by decide +kernel⟩
abbrev s_join_answers : Stmt := top 22
theorem sc_join_answers : FnScope ["answerer", "throws", "polynomials", "number"] ["answerer", "throws"] (defScope s_join_answers) := ⟨rfl, rfl, rfl, by decide +kernel, rfl, by decide +kernel, by decide +kernel⟩
abbrev s__law_stream : Stmt := top 24
theorem sc__law_stream : FnScope ["_law_script", "_law_row", "_law_cell", "_law_seed", "_law_k", "_law_left"] ["_law_script"] (defScope s__law_stream) := ⟨rfl, rfl, rfl, by decide +kernel, rfl, by decide +kernel, by decide +kernel⟩
abbrev s__law_take : Stmt := top 25
theorem sc__law_take : FnScope ["_law_row", "_law_many"] ["_law_row", "_law_many"] (defScope s__law_take) := ⟨rfl, rfl, rfl, by decide +kernel, rfl, by decide +kernel, by decide +kernel⟩
abbrev s__law_number : Stmt := top 26
theorem sc__law_number : FnScope ["_law_row", "_law_p"] ["_law_row", "_law_p"] (defScope s__law_number) := ⟨rfl, rfl, rfl, by decide +kernel, rfl, by decide +kernel, by decide +kernel⟩
abbrev s__law_near : Stmt := top 27
theorem sc__law_near : FnScope ["_law_one", "_law_two", "_law_p", "_law_result", "_law_k"] ["_law_one", "_law_two", "_law_p"] (defScope s__law_near) := ⟨rfl, rfl, rfl, by decide +kernel, rfl, by decide +kernel, by decide +kernel⟩
abbrev s__law_corner : Stmt := top 28
theorem sc__law_corner : FnScope ["_law_k", "_law_dims", "_law_j"] ["_law_k", "_law_dims"] (defScope s__law_corner) := ⟨rfl, rfl, rfl, by decide +kernel, rfl, by decide +kernel, by decide +kernel⟩
abbrev s__law_value : Stmt := top 29
theorem sc__law_value : FnScope ["_law_table", "_law_point", "_law_p", "_law_total", "_law_k"] ["_law_table", "_law_point", "_law_p"] (defScope s__law_value) := ⟨rfl, rfl, rfl, by decide +kernel, rfl, by decide +kernel, by decide +kernel⟩
abbrev s__law_mixed : Stmt := top 30
theorem sc__law_mixed : FnScope ["_law_numbers", "_law_mix", "_law_p", "_law_total", "_law_power", "_law_number_here"] ["_law_numbers", "_law_mix", "_law_p"] (defScope s__law_mixed) := ⟨rfl, rfl, rfl, by decide +kernel, rfl, by decide +kernel, by decide +kernel⟩
abbrev s__law_weight : Stmt := top 31
theorem sc__law_weight : FnScope ["_law_points", "_law_mix", "_law_spot", "_law_p", "_law_point"] ["_law_points", "_law_mix", "_law_spot", "_law_p"] (defScope s__law_weight) := ⟨rfl, rfl, rfl, by decide +kernel, rfl, by decide +kernel, by decide +kernel⟩
abbrev s__law_join_poly : Stmt := top 32
theorem sc__law_join_poly : FnScope ["_law_table", "_law_points", "_law_mix", "_law_before", "_law_p", "_law_many", "_law_found", "_law_t", "_law_total", "_law_k", "_law_spot"] ["_law_table", "_law_points", "_law_mix", "_law_before", "_law_p"] (defScope s__law_join_poly) := ⟨rfl, rfl, rfl, by decide +kernel, rfl, by decide +kernel, by decide +kernel⟩
abbrev s__law_step : Stmt := top 33
theorem sc__law_step : FnScope ["_law_join", "_law_kind", "_law_given", "e"] ["_law_join", "_law_kind", "_law_given"] (defScope s__law_step) := ⟨rfl, rfl, rfl, by decide +kernel, rfl, by decide +kernel, by decide +kernel⟩
abbrev s__law_wrong_steps : Stmt := top 34
theorem sc__law_wrong_steps : FnScope ["_law_join", "_law_due", "_law_p", "_law_kind", "_law_given"] ["_law_join", "_law_due", "_law_p"] (defScope s__law_wrong_steps) := ⟨rfl, rfl, rfl, by decide +kernel, rfl, by decide +kernel, by decide +kernel⟩
abbrev s__law_rounds : Stmt := top 35
theorem sc__law_rounds : FnScope ["_law_row", "_law_join", "_law_answerer", "_law_table", "_law_points", "_law_mix", "_law_p", "_law_before", "_law_k", "_law_due", "_law_shift", "_law_wrong", "_law_number_here"] ["_law_row", "_law_join", "_law_answerer", "_law_table", "_law_points", "_law_mix", "_law_p"] (defScope s__law_rounds) := ⟨rfl, rfl, rfl, by decide +kernel, rfl, by decide +kernel, by decide +kernel⟩
abbrev s_law : Stmt := top 36
theorem sc_law : FnScope ["_law_script", "_law_row", "_law_p", "_law_many", "_law_table", "_law_points", "_law_k", "_law_claims", "_law_kept", "_law_mix", "_law_numbers", "_law_join", "_law_answerer", "_law_before", "_law_value_here", "_law_other", "_law_told", "_law_due", "_law_point", "_law_j"] ["_law_script"] (defScope s_law) := ⟨rfl, rfl, rfl, by decide +kernel, rfl, by decide +kernel, by decide +kernel⟩
def flT : String → List String := fun f => if f = "throws" then ["SumAsker"] else if f = "table" then ["JoinAnswerer"] else if f = "sums" then ["Join"] else if f = "sent" then ["SumAsker"] else if f = "points" then ["Join", "JoinAnswerer"] else if f = "p" then ["SumAsker", "Join", "JoinAnswerer"] else if f = "next_point" then ["Join"] else if f = "next_claim" then ["Join"] else if f = "near" then ["JoinAnswerer"] else if f = "mix" then ["Join"] else if f = "degrees" then ["SumAsker"] else if f = "claims" then ["Join"] else if f = "claim" then ["SumAsker"] else []
theorem fl_Join : Fl_Join flT := by constructor <;> decide
theorem fl_JoinAnswerer : Fl_JoinAnswerer flT := by constructor <;> decide
theorem fl_SumAsker : Fl_SumAsker flT := by constructor <;> decide
/- join_answers: slots 0=answerer 1=throws 2=polynomials 3=number -/
def W_join_answers : DS := dSeq (dDrop (dMeth [("SumAsker", C_SumAsker_throw), ("Join", C_Join_throw), ("JoinAnswerer", C_JoinAnswerer_throw)] "throw" 1 (dVar 0) (dCons (dOp oIx (dVar 1) (dC (.int 0))) (dNil)))) (dSeq (dSet 2 (dLstM (dNil))) (dSeq (dFor (diList (dSl (dVar 1) (dpS (dC (.int 1))) (dpN))) (dgName 3) (dSeq (dDrop (dMethL oApp (dVar 2) (dCons (dMeth [("JoinAnswerer", C_JoinAnswerer_poly)] "poly" 0 (dVar 0) dNil) (dNil)))) (dDrop (dMeth [("SumAsker", C_SumAsker_throw), ("Join", C_Join_throw), ("JoinAnswerer", C_JoinAnswerer_throw)] "throw" 1 (dVar 0) (dCons (dVar 3) (dNil)))))) (dFrz 2 (dRet (dTup (dCons (dVar 2) (dCons (dMeth [("JoinAnswerer", C_JoinAnswerer_value)] "value" 0 (dVar 0) dNil) (dNil))))))))
/- _law_join_poly: slots 0=_law_table 1=_law_points 2=_law_mix 3=_law_before 4=_law_p 5=_law_many 6=_law_found 7=_law_t 8=_law_total 9=_law_k 10=_law_spot -/
def W__law_join_poly : DS := dSeq (dSet 5 (dOp oSub (dOp oSub (dCB cLen (dCons (dOp oIx (dVar 1) (dC (.int 0))) (dNil))) (dCB cLen (dCons (dVar 3) (dNil)))) (dC (.int 1)))) (dSeq (dSet 6 (dLstM (dNil))) (dSeq (dFor (diRng1 (dCons (dC (.int 3)) (dNil))) (dgName 7) (dSeq (dSet 8 (dC (.int 0))) (dSeq (dFor (diRng1 (dCons (dOp oShl (dC (.int 1)) (dVar 5)) (dNil))) (dgName 9) (dSeq (dSet 10 (dOp oAdd (dOp oAdd (dVar 3) (dLst (dCons (dVar 7) (dNil)))) (dCall 2 C__law_corner (dCons (dVar 9) (dCons (dVar 5) (dNil)))))) (dSet 8 (dOp oAdd (dVar 8) (dOp oMul (dCall 3 C__law_value__2 (dCons (dVar 0) (dCons (dVar 10) (dCons (dVar 4) (dNil))))) (dCall 4 C__law_weight (dCons (dVar 1) (dCons (dVar 2) (dCons (dVar 10) (dCons (dVar 4) (dNil))))))))))) (dDrop (dMethL oApp (dVar 6) (dCons (dOp oMod (dCB cInt (dCons (dVar 8) (dNil))) (dVar 4)) (dNil))))))) (dRet (dVar 6))))
/- _law_step: slots 0=_law_join 1=_law_kind 2=_law_given 3=e -/
def W__law_step : DS := dSeq (dTryAs 3 [("FieldError", false), ("TalkError", true)] (dIf (dB (dOp oEq (dVar 1) (dC (.str (PySem.Str.ofString "throw"))))) (dDrop (dMeth [("SumAsker", C_SumAsker_throw), ("Join", C_Join_throw), ("JoinAnswerer", C_JoinAnswerer_throw)] "throw" 1 (dVar 0) (dCons (dVar 2) (dNil)))) (dIf (dB (dOp oEq (dVar 1) (dC (.str (PySem.Str.ofString "polynomial"))))) (dDrop (dMeth [("Join", C_Join_answer)] "answer" 1 (dVar 0) (dCons (dVar 2) (dNil)))) (dDrop (dMeth [("Join", C_Join_answer_value)] "answer_value" 1 (dVar 0) (dCons (dVar 2) (dNil)))))) (fun a1 d1 c1 => dRet (dOp oEq (dXf a1 d1 "step" (dVar 3)) (dVar 1)))) (dRet (dC (.bl false)))
/- _law_wrong_steps: slots 0=_law_join 1=_law_due 2=_law_p 3=_law_kind 4=_law_given -/
def W__law_wrong_steps : DS := dSeq (dFor (diList (dLst (dCons (dTup (dCons (dC (.str (PySem.Str.ofString "throw"))) (dCons (dC (.int 0)) (dNil)))) (dCons (dTup (dCons (dC (.str (PySem.Str.ofString "polynomial"))) (dCons (dLst (dCons (dC (.int 0)) (dCons (dC (.int 0)) (dCons (dC (.int 0)) (dNil))))) (dNil)))) (dCons (dTup (dCons (dC (.str (PySem.Str.ofString "value"))) (dCons (dC (.int 0)) (dNil)))) (dNil)))))) (dgTup [3, 4]) (dIf (dAnd (dB (dOp oNe (dVar 3) (dVar 1))) (dNot (dB (dCall 3 C__law_step (dCons (dVar 0) (dCons (dVar 3) (dCons (dVar 4) (dNil)))))))) (dRet (dC (.bl false))) (dNext))) (dRet (dAndV (dOp oEq (dMeth [("Join", C_Join_wants)] "wants" 0 (dVar 0) dNil) (dVar 1)) (dOrV (dOp oNe (dVar 1) (dC (.str (PySem.Str.ofString "throw")))) (dCall 3 C__law_step (dCons (dVar 0) (dCons (dC (.str (PySem.Str.ofString "throw"))) (dCons (dVar 2) (dNil))))))))
/- _law_rounds: slots 0=_law_row 1=_law_join 2=_law_answerer 3=_law_table 4=_law_points 5=_law_mix 6=_law_p 7=_law_before 8=_law_k 9=_law_due 10=_law_shift 11=_law_wrong 12=_law_number_here -/
def W__law_rounds : DS := dSeq (dSet 7 (dLst (dNil))) (dSeq (dFor (diRng1 (dCons (dCB cLen (dCons (dOp oIx (dVar 4) (dC (.int 0))) (dNil))) (dNil))) (dgName 8) (dSeq (dSet 9 (dCall 5 C__law_join_poly (dCons (dVar 3) (dCons (dVar 4) (dCons (dVar 5) (dCons (dVar 7) (dCons (dVar 6) (dNil)))))))) (dSeq (dIf (dOr (dB (dOp oNe (dMeth [("JoinAnswerer", C_JoinAnswerer_poly)] "poly" 0 (dVar 2) dNil) (dVar 9))) (dNot (dB (dCall 3 C__law_wrong_steps (dCons (dVar 1) (dCons (dC (.str (PySem.Str.ofString "polynomial"))) (dCons (dVar 6) (dNil)))))))) (dRet (dC .non)) (dNext)) (dSeq (dSet 10 (dOp oAdd (dC (.int 1)) (dCall 2 C_take (dCons (dVar 0) (dCons (dOp oSub (dVar 6) (dC (.int 1))) (dNil)))))) (dSeq (dSet 11 (dOp oIx (dLst (dCons (dSl (dVar 9) (dpN) (dpS (dC (.int 2)))) (dCons (dOp oAdd (dVar 9) (dLst (dCons (dC (.int 0)) (dNil)))) (dCons (dOp oAdd (dLst (dCons (dVar 6) (dNil))) (dSl (dVar 9) (dpS (dC (.int 1))) (dpN))) (dCons (dOp oAdd (dLst (dCons (dOp oMod (dCB cInt (dCons (dOp oAdd (dOp oIx (dVar 9) (dC (.int 0))) (dVar 10)) (dNil))) (dVar 6)) (dNil))) (dSl (dVar 9) (dpS (dC (.int 1))) (dpN))) (dCons (dOp oAdd (dSl (dVar 9) (dpN) (dpS (dC (.int 2)))) (dLst (dCons (dOp oSub (dC (.int 0)) (dC (.int 1))) (dNil)))) (dNil))))))) (dCall 2 C_take (dCons (dVar 0) (dCons (dC (.int 5)) (dNil)))))) (dSeq (dIf (dOr (dB (dOp oNotB (dMeth [("Join", C_Join_answer)] "answer" 1 (dVar 1) (dCons (dVar 11) (dNil))) (dC (.bl false)))) (dOr (dB (dOp oNotB (dMeth [("Join", C_Join_answer)] "answer" 1 (dVar 1) (dCons (dVar 9) (dNil))) (dC (.bl true)))) (dNot (dB (dCall 3 C__law_wrong_steps (dCons (dVar 1) (dCons (dC (.str (PySem.Str.ofString "throw"))) (dCons (dVar 6) (dNil))))))))) (dRet (dC .non)) (dNext)) (dSeq (dSet 12 (dCall 2 C__law_number__61 (dCons (dVar 0) (dCons (dVar 6) (dNil))))) (dSeq (dDrop (dMeth [("SumAsker", C_SumAsker_throw), ("Join", C_Join_throw), ("JoinAnswerer", C_JoinAnswerer_throw)] "throw" 1 (dVar 1) (dCons (dVar 12) (dNil)))) (dSeq (dDrop (dMeth [("SumAsker", C_SumAsker_throw), ("Join", C_Join_throw), ("JoinAnswerer", C_JoinAnswerer_throw)] "throw" 1 (dVar 2) (dCons (dVar 12) (dNil)))) (dSet 7 (dOp oAdd (dVar 7) (dLst (dCons (dVar 12) (dNil)))))))))))))) (dRet (dVar 7)))
/- law: slots 0=_law_script 1=_law_row 2=_law_p 3=_law_many 4=_law_table 5=_law_points 6=_law_k 7=_law_claims 8=_law_kept 9=_law_mix 10=_law_numbers 11=_law_join 12=_law_answerer 13=_law_before 14=_law_value_here 15=_law_other 16=_law_told 17=_law_due 18=_law_point 19=_law_j -/
def W_law : DS := dSeq (dSet 1 (dCall 1 C_stream (dCons (dVar 0) (dNil)))) (dSeq (dSet 2 (dOp oIx (dLst (dCons (dC (.int 5)) (dCons (dC (.int 7)) (dCons (dC (.int 11)) (dCons (dC (.int 53)) (dCons (dC (.int 97)) (dNil))))))) (dCall 2 C_take (dCons (dVar 1) (dCons (dC (.int 5)) (dNil)))))) (dSeq (dSet 3 (dCall 2 C_take (dCons (dVar 1) (dCons (dC (.int 4)) (dNil))))) (dSeq (dSet 4 (dLc (diRng1 (dCons (dOp oShl (dC (.int 1)) (dVar 3)) (dNil))) (dgName 6) (dYes) (dCall 2 C__law_number__61 (dCons (dVar 1) (dCons (dVar 2) (dNil)))) [6])) (dSeq (dSet 5 (dLstM (dNil))) (dSeq (dFor (diRng1 (dCons (dOp oAdd (dC (.int 1)) (dCall 2 C_take (dCons (dVar 1) (dCons (dC (.int 5)) (dNil))))) (dNil))) (dgName 6) (dSeq (dSet 18 (dLc (diRng1 (dCons (dVar 3) (dNil))) (dgName 19) (dYes) (dCall 2 C__law_number__61 (dCons (dVar 1) (dCons (dOp oIx (dLst (dCons (dC (.int 2)) (dCons (dVar 2) (dNil)))) (dCall 2 C_take (dCons (dVar 1) (dCons (dC (.int 2)) (dNil))))) (dNil)))) [19])) (dSeq (dIf (dAnd (dBL (dVar 5)) (dB (dOp oEq (dCall 2 C_take (dCons (dVar 1) (dCons (dC (.int 4)) (dNil)))) (dC (.int 0))))) (dSet 18 (dCB cList (dCons (dOp oIx (dVar 5) (dC (.int 0))) (dNil)))) (dNext)) (dDrop (dMethL oApp (dVar 5) (dCons (dVar 18) (dNil))))))) (dSeq (dFrz 5 (dSet 7 (dLc (diList (dVar 5)) (dgName 18) (dYes) (dCall 3 C__law_value__2 (dCons (dVar 4) (dCons (dVar 18) (dCons (dVar 2) (dNil))))) [18]))) (dSeq (dSet 8 (dCB cRepr2 (dCons (dTup (dCons (dVar 4) (dCons (dVar 5) (dCons (dVar 7) (dNil))))) (dNil)))) (dSeq (dSet 9 (dCall 2 C__law_number__61 (dCons (dVar 1) (dCons (dVar 2) (dNil))))) (dSeq (dSet 10 (dLc (diRng1 (dCons (dCall 2 C_take (dCons (dVar 1) (dCons (dC (.int 6)) (dNil)))) (dNil))) (dgName 6) (dYes) (dCall 2 C__law_number__61 (dCons (dVar 1) (dCons (dVar 2) (dNil)))) [6])) (dSeq (dIf (dB (dOp oNe (dCall 3 C_mixed (dCons (dVar 10) (dCons (dVar 9) (dCons (dVar 2) (dNil))))) (dCall 3 C__law_mixed (dCons (dVar 10) (dCons (dVar 9) (dCons (dVar 2) (dNil))))))) (dRet (dC (.bl false))) (dNext)) (dSeq (dSet 11 (dMake 3 "Join" C_Join_init (dCons (dVar 2) (dCons (dVar 5) (dCons (dVar 7) (dNil)))))) (dSeq (dSet 12 (dMake 3 "JoinAnswerer" C_JoinAnswerer_init (dCons (dVar 2) (dCons (dVar 4) (dCons (dVar 5) (dNil)))))) (dSeq (dIf (dNot (dB (dCall 3 C__law_wrong_steps (dCons (dVar 11) (dCons (dC (.str (PySem.Str.ofString "throw"))) (dCons (dVar 2) (dNil))))))) (dRet (dC (.bl false))) (dNext)) (dSeq (dDrop (dMeth [("Join", C_Join_throw)] "throw" 1 (dVar 11) (dCons (dVar 9) (dNil)))) (dSeq (dDrop (dMeth [("JoinAnswerer", C_JoinAnswerer_throw)] "throw" 1 (dVar 12) (dCons (dVar 9) (dNil)))) (dSeq (dSet 13 (dCall 7 C__law_rounds (dCons (dVar 1) (dCons (dVar 11) (dCons (dVar 12) (dCons (dVar 4) (dCons (dVar 5) (dCons (dVar 9) (dCons (dVar 2) (dNil)))))))))) (dSeq (dIf (dOr (dB (dOp oIsN (dVar 13) (dC .non))) (dOr (dNot (dB (dCall 3 C__law_wrong_steps (dCons (dVar 11) (dCons (dC (.str (PySem.Str.ofString "value"))) (dCons (dVar 2) (dNil))))))) (dB (dOp oNotN (dFld ["Join"] "next_point" (dVar 11)) (dC .non))))) (dRet (dC (.bl false))) (dNext)) (dSeq (dSet 14 (dCall 3 C__law_value__2 (dCons (dVar 4) (dCons (dVar 13) (dCons (dVar 2) (dNil)))))) (dSeq (dSet 15 (dOp oMod (dCB cInt (dCons (dOp oAdd (dOp oAdd (dVar 14) (dC (.int 1))) (dCall 2 C_take (dCons (dVar 1) (dCons (dOp oSub (dVar 2) (dC (.int 1))) (dNil))))) (dNil))) (dVar 2))) (dSeq (dIf (dOr (dB (dOp oNe (dMeth [("JoinAnswerer", C_JoinAnswerer_value)] "value" 0 (dVar 12) dNil) (dVar 14))) (dB (dOp oNotB (dMeth [("Join", C_Join_answer_value)] "answer_value" 1 (dVar 11) (dCons (dVar 2) (dNil))) (dC (.bl false))))) (dRet (dC (.bl false))) (dNext)) (dSeq (dIf (dAnd (dB (dOp oNe (dCall 4 C__law_weight (dCons (dVar 5) (dCons (dVar 9) (dCons (dVar 13) (dCons (dVar 2) (dNil)))))) (dC (.int 0)))) (dB (dOp oNotB (dMeth [("Join", C_Join_answer_value)] "answer_value" 1 (dVar 11) (dCons (dVar 15) (dNil))) (dC (.bl false))))) (dRet (dC (.bl false))) (dNext)) (dSeq (dIf (dOr (dB (dOp oNotB (dMeth [("Join", C_Join_answer_value)] "answer_value" 1 (dVar 11) (dCons (dVar 14) (dNil))) (dC (.bl true)))) (dOr (dB (dOp oNe (dFld ["Join"] "next_point" (dVar 11)) (dVar 13))) (dB (dOp oNe (dFld ["Join"] "next_claim" (dVar 11)) (dVar 14))))) (dRet (dC (.bl false))) (dNext)) (dSeq (dIf (dOr (dNot (dB (dCall 3 C__law_wrong_steps (dCons (dVar 11) (dCons (dC (.str (PySem.Str.ofString "nothing"))) (dCons (dVar 2) (dNil))))))) (dB (dOp oNeS (dCB cRepr2 (dCons (dTup (dCons (dVar 4) (dCons (dVar 5) (dCons (dVar 7) (dNil))))) (dNil))) (dVar 8)))) (dRet (dC (.bl false))) (dNext)) (dSeq (dSet 16 (dCall 2 C_join_answers (dCons (dMake 3 "JoinAnswerer" C_JoinAnswerer_init (dCons (dVar 2) (dCons (dVar 4) (dCons (dVar 5) (dNil))))) (dCons (dOp oAdd (dLst (dCons (dVar 9) (dNil))) (dVar 13)) (dNil))))) (dSeq (dSet 17 (dLc (diRng1 (dCons (dVar 3) (dNil))) (dgName 6) (dYes) (dCall 5 C__law_join_poly (dCons (dVar 4) (dCons (dVar 5) (dCons (dVar 9) (dCons (dSl (dVar 13) (dpN) (dpS (dVar 6))) (dCons (dVar 2) (dNil))))))) [6])) (dRet (dAndV (dCB cIsi (dCons (dVar 16) (dCons (dC (.ty "tuple")) (dNil)))) (dOp oEq (dVar 16) (dTup (dCons (dVar 17) (dCons (dVar 14) (dNil))))))))))))))))))))))))))))))))
theorem sk_throw : PyData.strOk (PySem.Str.ofString "throw") = true := by decide +kernel
theorem sk_poly : PyData.strOk (PySem.Str.ofString "polynomial") = true := by decide +kernel
theorem sk_value : PyData.strOk (PySem.Str.ofString "value") = true := by decide +kernel
theorem JSt.ok {m : MM} {k n : Nat} {p : Int} {pts : List (List Int)} {cl : List Int} {w : String} (h : JSt m k n p pts cl w) : PyData.strOk (PySem.Str.ofString w) = true ∧ ∃ mix ks nx, m.M[k]? = some (.ins "Join" (joinF p pts cl mix ks nx)) := by
  rcases h with ⟨a, rfl⟩ | ⟨ks, j, mix, scl, ths, sent, nx, b, rfl⟩
  · exact ⟨sk_throw, _, _, _, a.ob⟩
  · exact ⟨want_ok, _, _, _, b.ob⟩
theorem rd__law_step : ∀ ds m Φ Ψ, ds.length = 3 → C__law_step ds m Φ Ψ → W__law_step { nx := fun _ m' => Φ .non m', rt := Φ } (fun _ => Ψ) (ds.map some ++ List.replicate (4 - ds.length) none) m := by
  intro ds m Φ Ψ _ h
  obtain ⟨k, n, p, pts, cl, w, step, g, rfl, js, h, q⟩ := h
  change W__law_step _ _ [some (.hnd k), some (.str (PySem.Str.ofString step)), some g, none] m
  unfold W__law_step
  obtain ⟨wok, fm, fk, fx, ob⟩ := js.ok
  refine dSeq_k fun k1 h1 => ?_
  have fin : ∀ (s : String), PyData.strOk (PySem.Str.ofString s) = true → ∀ (a d : PySem.Addr), (∃ v, List.lookup "step" (jtE s) = some v ∧ okE 64 v = true ∧ okE 64 (D.str (PySem.Str.ofString s)) = true ∧ Φ (D.bl (eqD v (D.str (PySem.Str.ofString s)))) m) := fun s sk a d => by
    refine ⟨_, rfl, okE_str sk, okE_str sk, ?_⟩
    unfold sD
    rw [eqD_self (n := 0) (okE_str sk)]
    exact q
  rcases h with ⟨rfl, t, rfl, hw⟩ | ⟨rfl, vs, rfl, v1000, hw⟩ | ⟨rfl, t, rfl, hw⟩
  · walk_at "dx"
    refine eqs sk_throw sk_throw (fun _ => ?_) (fun h => absurd rfl h)
    simp only [ob, moI_ins]
    walk_at "dx"
    refine ⟨rfl, k, n, t, p, pts, cl, rfl, ?_⟩
    rcases js with ⟨a, rfl⟩ | ⟨ks, j, mix, scl, ths, sent, nx, b, rfl⟩
    · refine .inl ⟨a, fun _ => ?_, fun h => absurd h (hw.resolve_left fun z => z rfl)⟩
      walk_at "dx"
      exact fin "throw" sk_throw
    · refine .inr ⟨ks, j, mix, scl, ths, sent, nx, b, fun _ => ?_, fun vs hv t0 t1 => ?_⟩
      · walk_at "dx"
        exact fin "throw" sk_throw
      · rw [ne_eq, want_throw] at hw
        rcases hw with z | z
        · exact absurd (by rw [hv]; simp) z
        · exact absurd ⟨t0, t1⟩ z
  · walk_at "dx"
    refine eqs sk_poly sk_throw (fun h => absurd h (by decide)) fun _ => ?_
    refine eqs sk_poly sk_poly (fun _ => ?_) (fun h => absurd rfl h)
    simp only [ob, moI_ins]
    walk_at "dx"
    refine ⟨rfl, k, n, p, pts, cl, vs, rfl, ?_⟩
    rcases js with ⟨a, rfl⟩ | ⟨ks, j, mix, scl, ths, sent, nx, b, rfl⟩
    · refine .inl ⟨a, ?_⟩
      walk_at "dx"
      exact fin "polynomial" sk_poly
    · refine .inr ⟨ks, j, mix, scl, ths, sent, nx, b, v1000, fun _ => ?_, fun h => absurd h hw⟩
      walk_at "dx"
      exact fin "polynomial" sk_poly
  · walk_at "dx"
    refine eqs sk_value sk_throw (fun h => absurd h (by decide)) fun _ => ?_
    refine eqs sk_value sk_poly (fun h => absurd h (by decide)) fun _ => ?_
    simp only [ob, moI_ins]
    walk_at "dx"
    refine ⟨rfl, k, n, t, p, pts, cl, rfl, ?_⟩
    rcases js with ⟨a, rfl⟩ | ⟨ks, j, mix, scl, ths, sent, nx, b, rfl⟩
    · refine .inl ⟨a, ?_⟩
      walk_at "dx"
      exact fin "value" sk_value
    · refine .inr ⟨ks, j, mix, scl, ths, sent, nx, b, fun _ => ?_, fun h => absurd h hw⟩
      walk_at "dx"
      exact fin "value" sk_value
theorem rd__law_wrong_steps : ∀ ds m Φ Ψ, ds.length = 3 → C__law_wrong_steps ds m Φ Ψ → W__law_wrong_steps { nx := fun _ m' => Φ .non m', rt := Φ } (fun _ => Ψ) (ds.map some ++ List.replicate (5 - ds.length) none) m := by
  intro ds m Φ Ψ _ h
  obtain ⟨k, n, p, pts, cl, w, rfl, js, q⟩ := h
  change W__law_wrong_steps _ _ [some (.hnd k), some (.str (PySem.Str.ofString w)), some (.int p), none, none] m
  unfold W__law_wrong_steps
  obtain ⟨wok, fm, fk, fx, ob⟩ := js.ok
  walk_at "stp"
  refine ⟨by decide, by decide, by decide, by decide, by decide, ?_⟩
  obtain ⟨L, hL⟩ : ∃ L : List (String × D), L = [("throw", .int 0), ("polynomial", .lst (([0, 0, 0] : List Int).map D.int)), ("value", .int 0)] := ⟨_, rfl⟩
  have good : ∀ z ∈ L, PyData.strOk (PySem.Str.ofString z.1) = true ∧ (w ≠ z.1 → (z.1 = "throw" ∧ ∃ t : Int, z.2 = .int t ∧ (w ≠ "throw" ∨ ¬ (0 ≤ t ∧ t < p))) ∨ (z.1 = "polynomial" ∧ ∃ vs : List Int, z.2 = .lst (vs.map D.int) ∧ vs.length ≤ 1000 ∧ w ≠ "polynomial") ∨ (z.1 = "value" ∧ ∃ t : Int, z.2 = .int t ∧ w ≠ "value")) := fun z hz => by
    rw [hL] at hz
    simp only [List.mem_cons, List.not_mem_nil, or_false] at hz
    rcases hz with rfl | rfl | rfl
    · exact ⟨sk_throw, fun h => .inl ⟨rfl, 0, rfl, .inl h⟩⟩
    · exact ⟨sk_poly, fun h => .inr (.inl ⟨rfl, _, rfl, by decide, h⟩)⟩
    · exact ⟨sk_value, fun h => .inr (.inr ⟨rfl, 0, rfl, h⟩)⟩
  rw [show [D.tup [D.str (PySem.Str.ofString "throw"), D.int 0], D.tup [D.str (PySem.Str.ofString "polynomial"), D.lst [D.int 0, D.int 0, D.int 0]], D.tup [D.str (PySem.Str.ofString "value"), D.int 0]] = L.map (fun z => D.tup [D.str (PySem.Str.ofString z.1), z.2]) by rw [hL]; rfl]
  refine forW_map (inj := fun z : String × D => D.tup [D.str (PySem.Str.ofString z.1), z.2]) (fun r ρ m' => ∃ (v3 v4 : Option D), (∀ z ∈ r, z ∈ L) ∧ ρ = [some (.hnd k), some (.str (PySem.Str.ofString w)), some (.int p), v3, v4] ∧ m' = m) ?_ ?_ L _ _ ⟨none, none, fun z h => h, rfl, rfl⟩
  · rintro z r kk hkk ρ m' ⟨v3, v4, hr, rfl, rfl⟩
    clear h1
    obtain ⟨zok, zg⟩ := good z (hr z List.mem_cons_self)
    walk_at "dx"
    have nxt : kk [some (.hnd k), some (.str (PySem.Str.ofString w)), some (.int p), some (.str (PySem.Str.ofString z.1)), some z.2] m' := hkk _ _ ⟨_, _, fun y hy => hr y (List.mem_cons_of_mem _ hy), rfl, rfl⟩
    refine nes zok wok (fun h => ?_) (fun _ => nxt)
    refine ⟨k, n, p, pts, cl, w, z.1, z.2, rfl, js, zg (fun e => h e.symm), ?_⟩
    walk_at "dx"
    exact nxt
  · rintro ρ m' ⟨v3, v4, hr, rfl, rfl⟩
    walk_at "lst"
    rw [ob]
    simp only [moI_ins]
    walk_at "dx"
    refine ⟨rfl, k, n, p, pts, cl, rfl, ?_⟩
    have js0 := js
    have last : okE 64 (D.str (PySem.Str.ofString w)) = true ∧ okE 64 (D.str (PySem.Str.ofString w)) = true ∧
      if eqD (D.str (PySem.Str.ofString w)) (D.str (PySem.Str.ofString w)) = true then
        okE 64 (D.str (PySem.Str.ofString w)) = true ∧ okE 64 (D.str (PySem.Str.ofString "throw")) = true ∧
            if eqD (D.str (PySem.Str.ofString w)) (D.str (PySem.Str.ofString "throw")) = false then Φ (D.bl true) m'
            else C__law_step [D.hnd k, D.str (PySem.Str.ofString "throw"), D.int p] m' Φ Ψ
      else Φ (D.bl false) m' := by
      refine eqs wok wok (fun _ => ?_) (fun h => absurd rfl h)
      refine nes wok sk_throw (fun _ => q) (fun h => ?_)
      exact ⟨k, n, p, pts, cl, w, "throw", .int p, rfl, js0, .inl ⟨rfl, p, rfl, .inr (by omega)⟩, q⟩
    rcases js with ⟨a, hw⟩ | ⟨ks, j, mix, scl, ths, sent, nx, b, hw⟩
    · refine .inl ⟨a, ?_⟩
      rw [show sD "throw" = sD w by rw [hw]]
      unfold sD
      walk_at "dx"
      exact last
    · refine .inr ⟨ks, j, mix, scl, ths, sent, nx, b, ?_⟩
      rw [← hw]
      unfold sD
      walk_at "dx"
      exact last
theorem rd__law_join_poly : ∀ ds m Φ Ψ, ds.length = 5 → C__law_join_poly ds m Φ Ψ → W__law_join_poly { nx := fun _ m' => retQ m Φ .non m', rt := retQ m Φ } (fun _ => retX m Ψ) (ds.map some ++ List.replicate (11 - ds.length) none) m := by
  intro ds m Φ Ψ _ h
  obtain ⟨tab, pts, mix, p, before, n, r, rfl, hp, p3, tin, tl, hn, n3, bin, pl0, pl, hpt, hm, q⟩ := h
  have hp1 := hp.1
  have hp2 := hp.2
  change W__law_join_poly _ _ [some (.lst (tab.map D.int)), some (.lst (pts.map intL)), some (.int mix), some (.lst (before.map D.int)), some (.int p), none, none, none, none, none, none] m
  unfold W__law_join_poly
  have r8 : 2 ^ r ≤ 2 ^ 3 := Nat.pow_le_pow_right (n := 2) (by decide) (by omega)
  obtain ⟨pt0, hpt0⟩ : ∃ x, x = pts.getD 0 [] := ⟨_, rfl⟩
  have gp : pts[0]? = some pt0 := by rw [hpt0, List.getD_eq_getElem?_getD, List.getElem?_eq_getElem pl0]; rfl
  have pl1 : pt0.length = n := (hpt _ (List.mem_of_getElem? gp)).2
  obtain ⟨nr, hnr⟩ : ∃ nr, nr = before.foldl (foldS p) (nearS pts mix p tab.length) := ⟨_, rfl⟩
  obtain ⟨tb, htb⟩ : ∃ tb, tb = before.foldl (foldS p) tab := ⟨_, rfl⟩
  have nl0 : (nearS pts mix p tab.length).length = 2 ^ n := by unfold nearS; rw [List.length_map, List.length_range, tl]
  have tbl : tb.length = 2 ^ (1 + r) := by rw [htb]; exact foldl_len before tab (1 + r) (by rw [tl, hn])
  have nrl : nr.length = 2 ^ (1 + r) := by rw [hnr]; exact foldl_len before _ (1 + r) (by rw [nl0, hn])
  have h2r : 2 ^ (1 + r) = 2 * 2 ^ r := by rw [Nat.add_comm, Nat.pow_succ, Nat.mul_comm]
  rw [← hnr, ← htb] at q
  walk_at "stp"
  refine ⟨intL pt0, atI_nat (j := 0) (by rw [List.getElem?_map, gp]; rfl), ?_⟩
  rw [show intL pt0 = .lst (pt0.map D.int) from rfl]
  walk_at "dx"
  rw [pl1, show ((n : Nat) : Int) - ((before.length : Nat) : Int) - 1 = ((r : Nat) : Int) by omega]
  walk_at "nxt"
  refine ⟨by decide, ?_⟩
  walk_at "nxt"
  refine ⟨⟨by decide, by decide⟩, ?_⟩
  rw [rngD0, show ((3 : Int)).toNat = 3 from rfl]
  obtain ⟨J, hJ⟩ : ∃ J : Nat → Int, J = fun t : Nat => (((List.range (foldS p nr (t : Nat)).length).map fun k : Nat => gi (foldS p nr (t : Nat)) (k : Nat) * gi (foldS p tb (t : Nat)) (k : Nat)).sum) % p := ⟨_, rfl⟩
  have eJ : joinP nr tb p = (List.range 3).map J := by rw [hJ]; rfl
  rw [eJ] at q
  refine forW_nat (fun t ρ m' => ∃ (v7 v8 v9 v10 : Option D), ρ = [some (.lst (tab.map D.int)), some (.lst (pts.map intL)), some (.int mix), some (.lst (before.map D.int)), some (.int p), some (.int (r : Nat)), some (.hnd m.M.length), v7, v8, v9, v10] ∧ m' = ⟨m.M ++ [MO.lst (((List.range t).map J).map D.int)], m.s⟩) ?_ ?_ ⟨_, _, _, _, rfl, rfl⟩
  · rintro t kk ht hkk ρ m' ⟨v7, v8, v9, v10, rfl, rfl⟩
    clear h1
    walk_at "stp"
    walk_at "nxt"
    rw [Int.one_mul, Int.toNat_natCast]
    have e2 : ((2 : Int) ^ r) = ((2 ^ r : Nat) : Int) := by rw [Int.natCast_pow]; rfl
    rw [e2]
    refine ⟨cpow_ok (by omega), ⟨by omega, by omega⟩, ?_⟩
    rw [rngD0, Int.toNat_natCast]
    have fnl : (foldS p nr (t : Nat)).length = 2 ^ r := by rw [foldS_len, nrl]; omega
    have tp : 0 ≤ ((t : Nat) : Int) ∧ ((t : Nat) : Int) < p := by omega
    refine forW_nat (fun k ρ m' => ∃ (tot : Int) (v9 v10 : Option D), Cg p tot (S k fun k => gi (foldS p nr (t : Nat)) (k : Nat) * gi (foldS p tb (t : Nat)) (k : Nat)) ∧ ρ = [some (.lst (tab.map D.int)), some (.lst (pts.map intL)), some (.int mix), some (.lst (before.map D.int)), some (.int p), some (.int (r : Nat)), some (.hnd m.M.length), some (.int (t : Nat)), some (.int tot), v9, v10] ∧ m' = ⟨m.M ++ [MO.lst (((List.range t).map J).map D.int)], m.s⟩) ?_ ?_ ⟨0, _, _, .refl, rfl, rfl⟩
    · rintro k kk2 hk hkk2 ρ m' ⟨tot, v9, v10, ct, rfl, rfl⟩
      clear h1
      walk_at "stp"
      have cl := corn_len (i := k) (n := r)
      refine ⟨by decide, by show before.length + 1 ≤ 16777216; omega, k, r, rfl, by omega, ?_⟩
      walk_at "dx"
      obtain ⟨sp, hsp⟩ : ∃ sp, sp = before ++ [((t : Nat) : Int)] ++ corn k r := ⟨_, rfl⟩
      have spl : sp.length = n := by rw [hsp, List.length_append, List.length_append, cl, hn]; show before.length + 1 + r = _; omega
      have spin : InP p sp := fun x hx => by
        rw [hsp] at hx
        rcases List.mem_append.mp hx with y | y
        · rcases List.mem_append.mp y with z | z
          · exact bin x z
          · rw [List.mem_singleton.mp z]; exact tp
        · obtain ⟨j, _, rfl⟩ := List.mem_map.mp y
          have := Nat.mod_lt (k / 2 ^ j) (show 0 < 2 by decide)
          omega
      rw [show before.map D.int ++ [D.int (t : Nat)] ++ (corn k r).map D.int = sp.map D.int by rw [hsp, List.map_append, List.map_append]; rfl]
      refine ⟨by rw [List.length_append, List.length_map, cl]; show before.length + 1 + r ≤ 16777216; omega, ?_⟩
      walk_at "lst"
      refine ⟨tab, sp, p, rfl, hp, tin, spin, by rw [tl, spl], by omega, ?_⟩
      refine ⟨pts, mix, p, sp, rfl, hp, fun x hx => ⟨(hpt x hx).1, by rw [(hpt x hx).2, spl]⟩, pl, by omega, spin, hm, ?_⟩
      have mi := mod_in hp1 (z := mle tab sp)
      walk_at "dx"
      refine ⟨mulL mi.1 (by omega), hkk2 _ _ ⟨_, _, _, ?_, rfl, rfl⟩⟩
      have c1 : Cg p (mle tab sp % p) (gi (foldS p tb (t : Nat)) (k : Nat)) := by
        rw [hsp, htb]
        exact Cg.mod.trans (fold_entry (by rw [tl, hn]) hk)
      have c2 : Cg p (mixV (pts.map fun x => nrF p sp 0 x (1 % p)) mix p) (gi (foldS p nr (t : Nat)) (k : Nat)) := by
        have z := nearS_mle (p := p) (mix := mix) (pts := pts) (sp := sp) (fun x hx => by rw [(hpt x hx).2, spl])
        rw [spl, ← tl] at z
        refine z.symm.trans ?_
        rw [hsp, hnr]
        exact fold_entry (by rw [nl0, hn]) hk
      exact Cg.add ct ((Cg.mul c1 c2).trans (.of_eq (Int.mul_comm _ _)))
    · rintro ρ m' ⟨tot, v9, v10, ct, rfl, rfl⟩
      walk_at "lst"
      refine ⟨by omega, by rw [List.length_range]; show t < 16777216; omega, ?_⟩
      have e : tot % p = J t := by
        rw [hJ]
        dsimp only
        rw [sum_S, fnl]
        exact ct
      rw [e]
      refine hkk _ _ ⟨_, _, _, _, rfl, ?_⟩
      rw [List.range_succ, List.map_append, List.map_append]
      rfl
  · rintro ρ m' ⟨v7, v8, v9, v10, rfl, rfl⟩
    walk_at "lst"
    exact ⟨m.M, _, _, rfl, kept.rfl, .inr ⟨0, _, rfl, rfl, rfl⟩, clAll_ints _, q⟩
theorem clF_ja {n : Nat} {p : Int} {tab : List Int} {pts : List (List Int)} {near : Option (List Int)} : clF n (jaF p tab pts near) = true := by
  have h1 : clD n (.lst (tab.map D.int)) = true := clD_pl _ (plD_ints _)
  have h2 : clD n (.lst (pts.map intL)) = true := clD_pl _ (plD_tab _)
  have h3 : clD n (onL near) = true := by
    cases near with
    | none => rfl
    | some nr => exact clD_pl _ (plD_ints _)
  show (true && (clD n (.lst (tab.map D.int)) && (clD n (.lst (pts.map intL)) && (clD n (onL near) && true)))) = true
  rw [h1, h2, h3]
  rfl
theorem nearS_in {pts : List (List Int)} {mix p : Int} {n : Nat} (hp : 2 ≤ p) : InP p (nearS pts mix p n) := fun x hx => by
  unfold nearS at hx
  obtain ⟨_, _, rfl⟩ := List.mem_map.mp hx
  unfold mixV
  exact mod_in hp
theorem nearS_len {pts : List (List Int)} {mix p : Int} {n : Nat} : (nearS pts mix p n).length = n := by unfold nearS; rw [List.length_map, List.length_range]
theorem rd_join_answers : ∀ ds m Φ Ψ, ds.length = 2 → C_join_answers ds m Φ Ψ → W_join_answers { nx := fun _ m' => retQ m Φ .non m', rt := retQ m Φ } (fun _ => retX m Ψ) (ds.map some ++ List.replicate (4 - ds.length) none) m := by
  intro ds m Φ Ψ _ h
  obtain ⟨ka, mix, p, zs, tab, pts, rfl, a, hm, zin, tl, z10, pl, hpt, q⟩ := h
  have hp := a.pm
  have hp1 := hp.1
  have hp2 := hp.2
  have ob := a.ob
  have hk := getLt ob
  have t10 : 2 ^ zs.length ≤ 2 ^ 10 := Nat.pow_le_pow_right (n := 2) (by decide) z10
  change W_join_answers _ _ [some (.hnd ka), some (.lst ((mix :: zs).map D.int)), none, none] m
  unfold W_join_answers
  walk_at "stp"
  rw [ob]
  simp only [moI_ins]
  walk_at "dx"
  refine ⟨rfl, .int mix, atI_nat (j := 0) rfl, ka, mix, p, tab, pts, none, rfl, a, hm.1, hm.2, pl, fun _ => ⟨fun x hx => ⟨(hpt x hx).1, by rw [(hpt x hx).2]; omega, by rw [tl, (hpt x hx).2]; exact Nat.le_refl _⟩, ?_⟩, fun nr h => (by cases h)⟩
  obtain ⟨nr0, hnr0⟩ : ∃ nr0, nr0 = nearS pts mix p tab.length := ⟨_, rfl⟩
  have ni0 : InP p nr0 := by rw [hnr0]; exact nearS_in hp1
  have nl0 : nr0.length = tab.length := by rw [hnr0]; exact nearS_len
  rw [← hnr0] at q ⊢
  walk_at "nxt"
  refine ⟨by decide, ?_⟩
  walk_at "nxt"
  rw [show cutD (List.map D.int (mix :: zs)) (some 1) none = zs.map D.int from cut_from1, List.length_set]
  have ao : ∀ (dn : List Int) (L : List MO) (s : Nat), JaOK ⟨m.M.set ka (.ins "JoinAnswerer" (jaF p (dn.foldl (foldS p) tab) pts (some (dn.foldl (foldS p) nr0)))) ++ L, s⟩ ka p (dn.foldl (foldS p) tab) pts (some (dn.foldl (foldS p) nr0)) := fun dn L s => by
    have fl : ∀ (zs : List Int) (t : List Int), (zs.foldl (foldS p) t).length ≤ t.length := fun zs => by
      induction zs with
      | nil => intro t; exact Nat.le_refl _
      | cons z zs ih => intro t; have := ih (foldS p t z); rw [foldS_len] at this; show (zs.foldl (foldS p) (foldS p t z)).length ≤ _; omega
    have fe : ∀ (zs : List Int) (t u : List Int), t.length = u.length → (zs.foldl (foldS p) t).length = (zs.foldl (foldS p) u).length := fun zs => by
      induction zs with
      | nil => intro t u h; exact h
      | cons z zs ih => intro t u h; exact ih _ _ (by rw [foldS_len, foldS_len, h])
    refine ⟨by show (m.M.set ka _ ++ L)[ka]? = _; rw [List.getElem?_append_left (by rw [List.length_set]; exact hk)]; exact List.getElem?_set_self hk, hp, foldl_in hp1 dn tab a.tin, by have := fl dn tab; have := a.tl; omega, fun nr h => ?_⟩
    injection h with h
    subst h
    exact ⟨foldl_in hp1 dn nr0 ni0, fe dn _ _ nl0⟩
  have mg : ∀ (X l : MO), (m.M.set ka X ++ [l])[m.M.length]? = some l := fun X l => by
    have e : m.M.length = (m.M.set ka X).length := List.length_set.symm
    rw [e]; exact app_len
  have ms : ∀ (X l l' : MO), (m.M.set ka X ++ [l]).set m.M.length l' = m.M.set ka X ++ [l'] := fun X l l' => by
    have e : m.M.length = (m.M.set ka X).length := List.length_set.symm
    rw [e]; exact set_app
  have mk : ∀ (X Y : MO) (L : List MO), (m.M.set ka X ++ L).set ka Y = m.M.set ka Y ++ L := fun X Y L => by
    rw [List.set_append_left _ _ (by rw [List.length_set]; exact hk), List.set_set]
  refine forW_map (inj := D.int) (fun r ρ m' => ∃ (dn : List Int) (v3 : Option D), zs = dn ++ r ∧ ρ = [some (.hnd ka), some (.lst ((mix :: zs).map D.int)), some (.hnd m.M.length), v3] ∧ m' = ⟨m.M.set ka (.ins "JoinAnswerer" (jaF p (dn.foldl (foldS p) tab) pts (some (dn.foldl (foldS p) nr0)))) ++ [MO.lst ((polysF zs nr0 tab p dn.length).map intL)], m.s⟩) ?_ ?_ zs _ _ ⟨[], _, rfl, rfl, rfl⟩
  · rintro z r kk hkk ρ m' ⟨dn, v3, hz, rfl, rfl⟩
    clear h1
    have a1 := ao dn [MO.lst ((polysF zs nr0 tab p dn.length).map intL)] m.s
    have zr := zin z (by rw [hz]; simp)
    have dl : dn.length < zs.length := by rw [hz, List.length_append, List.length_cons]; omega
    have pe : (polysF zs nr0 tab p dn.length).map intL ++ [.lst ((joinP (dn.foldl (foldS p) nr0) (dn.foldl (foldS p) tab) p).map D.int)] = (polysF zs nr0 tab p (dn.length + 1)).map intL := by
      unfold polysF
      rw [List.range_succ, List.map_append, List.map_append]
      have tk : zs.take dn.length = dn := by rw [hz]; exact List.take_left' rfl
      show _ = _ ++ [intL (joinP ((zs.take dn.length).foldl (foldS p) nr0) ((zs.take dn.length).foldl (foldS p) tab) p)]
      rw [tk]
      rfl
    walk_at "stp"
    rw [mg, a1.ob]
    simp only [moI_ins, moL_lst]
    walk_at "dx"
    refine ⟨rfl, ka, p, _, pts, _, rfl, a1, ?_⟩
    simp only [mg, moL_lst, ms]
    rw [pe]
    refine ⟨by rw [List.length_map]; unfold polysF; rw [List.length_map, List.length_range]; show _ < 16777216; omega, ?_⟩
    have a2 := ao dn [MO.lst ((polysF zs nr0 tab p (dn.length + 1)).map intL)] m.s
    walk_at "lst"
    rw [a2.ob]
    simp only [moI_ins]
    walk_at "dx"
    refine ⟨rfl, ka, z, p, _, pts, _, rfl, a2, zr.1, zr.2, pl, fun h => (by cases h), fun nr h => ?_⟩
    injection h with h
    subst h
    rw [mk]
    refine hkk _ _ ⟨dn ++ [z], _, by rw [hz]; simp, rfl, ?_⟩
    rw [List.foldl_append, List.foldl_append, List.length_append]
    rfl
  · rintro ρ m' ⟨dn, v3, hz, rfl, rfl⟩
    rw [List.append_nil] at hz
    subst hz
    have a3 := ao zs [.dead] m.s
    have fl1 : (zs.foldl (foldS p) tab).length = 2 ^ 0 := foldl_len zs tab 0 tl
    subst h1
    unfold dFrz
    simp only [List.getElem?_cons_zero, List.getElem?_cons_succ, mg, moL_lst, ms]
    walk_at "dx"
    rw [a3.ob]
    simp only [moI_ins]
    walk_at "dx"
    refine ⟨rfl, ka, p, _, pts, _, rfl, a3, by rw [fl1]; decide, ?_⟩
    walk_at "dx"
    refine ⟨by decide, m.M.set ka (.ins "JoinAnswerer" (jaF p (zs.foldl (foldS p) tab) pts (some (zs.foldl (foldS p) nr0)))), [.dead], _, rfl, kept.rfl.set clF_ja, .inl rfl, ?_, q _⟩
    have h1 : clD m.M.length (.lst ((polysF zs nr0 tab p zs.length).map intL)) = true := clD_pl _ (plD_tab _)
    show (clD m.M.length (.lst ((polysF zs nr0 tab p zs.length).map intL)) && (true && true)) = true
    rw [h1]
    rfl
theorem rd__law_rounds : ∀ ds m Φ Ψ, ds.length = 7 → C__law_rounds ds m Φ Ψ → W__law_rounds { nx := fun _ m' => Φ .non m', rt := Φ } (fun _ => Ψ) (ds.map some ++ List.replicate (13 - ds.length) none) m := by
  intro ds m Φ Ψ _ h
  obtain ⟨kj, ks, jt, ka, n, p, mix, pts, cls, tab, nr, rfl, hs, n3, p5, p97, tl, pl0, hnr, b0, a0, q⟩ := h
  have hp := a0.pm
  have hp1 := hp.1
  have hp2 := hp.2
  have P := b0.a.pr
  have pin := b0.pin
  have pl := b0.pl
  have hm := b0.hm
  change W__law_rounds _ _ [some (.st 1), some (.hnd kj), some (.hnd ka), some (.lst (tab.map D.int)), some (.lst (pts.map intL)), some (.int mix), some (.int p), none, none, none, none, none, none] m
  unfold W__law_rounds
  obtain ⟨pt0, hpt0⟩ : ∃ x, x = pts.getD 0 [] := ⟨_, rfl⟩
  have gp : pts[0]? = some pt0 := by rw [hpt0, List.getD_eq_getElem?_getD, List.getElem?_eq_getElem pl0]; rfl
  have pl1 : pt0.length = n := (pin _ (List.mem_of_getElem? gp)).2
  have nl0 : nr.length = 2 ^ n := by rw [hnr, nearS_len, tl]
  walk_at "stp"
  refine ⟨by decide, ?_⟩
  walk_at "nxt"
  refine ⟨intL pt0, atI_nat (j := 0) (by rw [List.getElem?_map, gp]; rfl), ?_⟩
  rw [show intL pt0 = .lst (pt0.map D.int) from rfl]
  walk_at "dx"
  rw [pl1]
  refine ⟨⟨by omega, by omega⟩, ?_⟩
  rw [rngD0, Int.toNat_natCast]
  obtain ⟨M0, s0⟩ := m
  have hs : s0 = 1 := hs
  subst hs
  refine forW_nat (fun i ρ m' => ∃ (zs : List Int) (M' : List MO) (v8 v9 v10 v11 v12 : Option D), zs.length = i ∧ InP p zs ∧ JnB ⟨M', 1⟩ kj ks jt p pts cls mix (tot2 (zs.foldl (foldS p) nr) (zs.foldl (foldS p) tab) (2 ^ (n - i)) % p) zs none none n ∧ JaOK ⟨M', 1⟩ ka p (zs.foldl (foldS p) tab) pts (some (zs.foldl (foldS p) nr)) ∧
    ρ = [some (.st 1), some (.hnd kj), some (.hnd ka), some (.lst (tab.map D.int)), some (.lst (pts.map intL)), some (.int mix), some (.int p), some (.lst (zs.map D.int)), v8, v9, v10, v11, v12] ∧ m' = ⟨M', 1⟩) ?_ ?_ ⟨[], M0, _, _, _, _, _, rfl, fun x hx => (by cases hx), b0, a0, rfl, rfl⟩
  · rintro i kk hi hkk ρ m' ⟨zs, M', v8, v9, v10, v11, v12, zl, zin, b, a, rfl, rfl⟩
    clear h1
    obtain ⟨l, hl⟩ : ∃ l, n - i = l + 1 := ⟨n - i - 1, by omega⟩
    have tbl : (zs.foldl (foldS p) tab).length = 2 * 2 ^ l := by rw [foldl_len zs tab (l + 1) (by rw [tl, zl]; congr 1; omega), Nat.pow_succ, Nat.mul_comm]
    have nrl : (zs.foldl (foldS p) nr).length = 2 * 2 ^ l := by rw [foldl_len zs nr (l + 1) (by rw [nl0, zl]; congr 1; omega), Nat.pow_succ, Nat.mul_comm]
    obtain ⟨Du, hDu⟩ : ∃ Du, Du = joinP (zs.foldl (foldS p) nr) (zs.foldl (foldS p) tab) p := ⟨_, rfl⟩
    have Dl : Du.length = 3 := by rw [hDu]; exact joinP_len
    have Din : InP p Du := by rw [hDu]; exact joinP_in hp1
    obtain ⟨scl, hscl⟩ : ∃ scl, scl = tot2 (zs.foldl (foldS p) nr) (zs.foldl (foldS p) tab) (2 ^ (n - i)) % p := ⟨_, rfl⟩
    have sin : 0 ≤ scl ∧ scl < p := by rw [hscl]; exact mod_in hp1
    have Dc : cornV Du p = scl := by rw [hDu, joinP_corn nrl tbl, hscl, hl, Nat.pow_succ, Nat.mul_comm]
    rw [← hscl] at b
    have wp : "polynomial" = wantS none (decide (zs.length = n)) (none : Option (List Int × Int)) := (want_poly.symm ▸ ⟨rfl, decide_eq_false (by omega)⟩ : wantS none (decide (zs.length = n)) (none : Option (List Int × Int)) = "polynomial").symm
    walk_at "stp"
    refine ⟨tab, pts, mix, p, zs, n, l, rfl, hp, by omega, a0.tin, tl, by omega, n3, zin, pl0, pl, pin, hm, ?_⟩
    rw [← hnr, ← hDu]
    walk_at "nxt"
    rw [a.ob]
    simp only [moI_ins]
    walk_at "dx"
    refine ⟨rfl, ka, p, _, pts, _, rfl, a, ?_⟩
    rw [← hDu]
    walk_at "dx"
    rw [eqD_ints]
    refine ⟨okE_ints, okE_ints, ?_⟩
    rw [decide_eq_true rfl, if_neg (by decide)]
    refine ⟨kj, n, p, pts, cls, "polynomial", rfl, .inr ⟨ks, jt, mix, scl, zs, none, none, b, wp⟩, ?_⟩
    walk_at "dx"
    walk_at "nxt"
    refine ⟨p - 1, rfl, rfl, by omega, by omega, fun sh sh0 sh1 => ?_⟩
    walk_at "nxt"
    have ask : askC Du p scl (List.replicate n 2) zs = true := by
      unfold askC
      rw [zl, gi_rep hi, decide_eq_true (by omega), Bool.true_and, List.all_eq_true.mpr (fun v hv => decide_eq_true (Din v hv)), Bool.true_and, Dc]
      exact decide_eq_true rfl
    have go : ∀ W : List Int, W.length ≤ 1000 → askC W p scl (List.replicate n 2) zs = false → k1 [some (.st 1), some (.hnd kj), some (.hnd ka), some (.lst (tab.map D.int)), some (.lst (pts.map intL)), some (.int mix), some (.int p), some (.lst (zs.map D.int)), some (.int (i : Nat)), some (.lst (Du.map D.int)), some (.int (1 + sh)), some (.lst (W.map D.int)), v12] ⟨M', 1⟩ := by
      intro W wl wa
      walk_at "nxt"
      rw [b.ob]
      simp only [moI_ins]
      walk_at "dx"
      refine ⟨rfl, kj, n, p, pts, cls, W, rfl, .inr ⟨ks, jt, mix, scl, zs, none, none, b, wl, fun h => absurd wp.symm h, fun _ => ?_⟩⟩
      rw [wa, if_neg (by decide)]
      walk_at "dx"
      rw [b.ob]
      simp only [moI_ins]
      walk_at "dx"
      refine ⟨rfl, kj, n, p, pts, cls, Du, rfl, .inr ⟨ks, jt, mix, scl, zs, none, none, b, by omega, fun h => absurd wp.symm h, fun _ => ?_⟩⟩
      rw [ask, if_pos rfl]
      have b1 := b.sets Din (by omega) (by omega) (by omega)
      have n2 : ks ≠ ka := ne_obj b.a.ob a.ob (ins_ne (by decide))
      have a1 : JaOK ⟨M'.set ks (.ins "SumAsker" (askF p scl (List.replicate n 2) jt (some Du))), 1⟩ ka p (zs.foldl (foldS p) tab) pts (some (zs.foldl (foldS p) nr)) := a.keep (List.getElem?_set_ne n2)
      generalize M'.set ks (.ins "SumAsker" (askF p scl (List.replicate n 2) jt (some Du))) = M1 at b1 a1 ⊢
      walk_at "dx"
      refine ⟨kj, n, p, pts, cls, "throw", rfl, .inr ⟨ks, jt, mix, scl, zs, some Du, none, b1, rfl⟩, ?_⟩
      walk_at "dx"
      walk_at "nxt"
      refine ⟨p, rfl, rfl, ⟨by omega, by omega⟩, fun z z0 z1 => ?_⟩
      walk_at "nxt"
      rw [b1.ob]
      simp only [moI_ins]
      walk_at "dx"
      refine ⟨rfl, kj, n, z, p, pts, cls, rfl, .inr ⟨ks, jt, mix, scl, zs, some Du, none, b1, fun h => ?_, fun vs hv _ _ => ?_⟩⟩
      · rcases h with h | h
        · cases h
        · exact absurd ⟨z0, z1⟩ h
      injection hv with hv
      subst hv
      have n3 : jt ≠ ka := fun e => ne_obj a1.ob b1.a.th lst_ne e.symm
      have b2 := b1.thr (v := valV Du z p) (by omega) z0 z1
      have a2 : JaOK ⟨(M1.set ks (.ins "SumAsker" (askF p (valV Du z p) (List.replicate n 2) jt none))).set jt (.lst ((zs ++ [z]).map D.int)), 1⟩ ka p (zs.foldl (foldS p) tab) pts (some (zs.foldl (foldS p) nr)) := a1.keep (by rw [List.getElem?_set_ne n3, List.getElem?_set_ne n2])
      generalize (M1.set ks (.ins "SumAsker" (askF p (valV Du z p) (List.replicate n 2) jt none))).set jt (.lst ((zs ++ [z]).map D.int)) = M2 at b2 a2 ⊢
      walk_at "nxt"
      rw [a2.ob]
      simp only [moI_ins]
      walk_at "dx"
      refine ⟨rfl, ka, z, p, _, pts, some _, rfl, a2, z0, z1, pl, fun h => (by cases h), fun nr2 h => ?_⟩
      injection h with h
      subst h
      have b3 := b2.oth (g := jaF p (foldS p (zs.foldl (foldS p) tab) z) pts (some (foldS p (zs.foldl (foldS p) nr) z))) a2.ob
      have a3 : JaOK ⟨M2.set ka (.ins "JoinAnswerer" (jaF p (foldS p (zs.foldl (foldS p) tab) z) pts (some (foldS p (zs.foldl (foldS p) nr) z)))), 1⟩ ka p (foldS p (zs.foldl (foldS p) tab) z) pts (some (foldS p (zs.foldl (foldS p) nr) z)) := by
        refine ⟨List.getElem?_set_self (getLt a2.ob), hp, foldS_in hp1, ?_, fun nr3 h => ?_⟩
        · rw [foldS_len]; have := a2.tl; omega
        · injection h with h
          subst h
          exact ⟨foldS_in hp1, by rw [foldS_len, foldS_len, nrl, tbl]⟩
      generalize M2.set ka (.ins "JoinAnswerer" (jaF p (foldS p (zs.foldl (foldS p) tab) z) pts (some (foldS p (zs.foldl (foldS p) nr) z)))) = M3 at b3 a3 ⊢
      have ev : valV Du z p = tot2 ((zs ++ [z]).foldl (foldS p) nr) ((zs ++ [z]).foldl (foldS p) tab) (2 ^ (n - (i + 1))) % p := by
        rw [hDu, joinP_val hp1 P (by omega) nrl tbl z0, List.foldl_append, List.foldl_append, show n - (i + 1) = l by omega]
        rfl
      rw [ev] at b3
      walk_at "lst"
      refine ⟨by decide, by show zs.length + 1 ≤ 16777216; omega, ?_⟩
      rw [show zs.map D.int ++ [D.int z] = (zs ++ [z]).map D.int by rw [List.map_append]; rfl]
      refine hkk _ _ ⟨zs ++ [z], M3, _, _, _, _, _, by rw [List.length_append, zl]; rfl, b3.tin, b3, by rw [List.foldl_append, List.foldl_append]; exact a3, rfl, rfl⟩
    have dge : ((Du.length : Nat) : Int) = gi (List.replicate n 2) (zs.length : Nat) + 1 := by rw [zl, gi_rep hi, Dl]; rfl
    obtain ⟨d0, d1, d2, e3⟩ : ∃ d0 d1 d2, Du = [d0, d1, d2] := by
      match Du, Dl with
      | [a, b, c], _ => exact ⟨a, b, c, rfl⟩
    have ct : cutD (Du.map D.int) none (some 2) = ([d0, d1] : List Int).map D.int := by
      rw [show cutD (Du.map D.int) none (some 2) = (Du.map D.int).take 2 from cutT (k := 2) (by rw [List.length_map, Dl]; decide), e3]; rfl
    have cr : cutD (Du.map D.int) (some 1) none = ([d1, d2] : List Int).map D.int := by
      rw [e3]; exact cut_from1
    rw [ct, cr]
    refine ⟨by decide, by rw [Dl]; decide, by decide, by show 3 ≤ 16777216; decide, _, atI_gi (by decide) (by rw [Dl]; decide), ?_⟩
    have g0 : gi Du 0 = d0 := by rw [e3]; rfl
    rw [g0]
    walk_at "dx"
    refine ⟨by omega, by decide, by show 3 ≤ 16777216; decide, by decide, by show 3 ≤ 16777216; decide, by decide, 5, rfl, rfl, by decide, by decide, fun y y0 y1 => ?_⟩
    walk_at "dx"
    have : y = 0 ∨ y = 1 ∨ y = 2 ∨ y = 3 ∨ y = 4 := by omega
    rcases this with rfl | rfl | rfl | rfl | rfl
    · exact ⟨_, atI_nat (j := 0) rfl, go [d0, d1] (by show 2 ≤ 1000; decide) (no_l (by rw [Dl]; show 2 ≠ 3; decide) dge)⟩
    · refine ⟨_, atI_nat (j := 1) rfl, ?_⟩
      rw [show Du.map D.int ++ [D.int 0] = (Du ++ [0]).map D.int by rw [List.map_append]; rfl]
      exact go _ (by rw [List.length_append, Dl]; decide) (no_l (by rw [List.length_append, Dl]; decide) dge)
    · exact ⟨_, atI_nat (j := 2) rfl, go [p, d1, d2] (by show 3 ≤ 1000; decide) (no_v (v := p) List.mem_cons_self (by omega))⟩
    · refine ⟨_, atI_nat (j := 3) rfl, go [(d0 + (1 + sh)) % p, d1, d2] (by show 3 ≤ 1000; decide) (no_c fun h => ?_)⟩
      have h2 : cornV Du p = (d0 + d1) % p := by rw [e3]; rfl
      rw [Dc] at h2
      have h3 : ((d0 + (1 + sh)) % p + d1) % p = (d0 + d1) % p := by rw [← h2, ← h]; rfl
      have c1 : Cg p (d0 + (1 + sh) + d1) (d0 + d1) := (Cg.add Cg.mod.symm .refl).trans h3
      have c2 : Cg p (1 + sh) 0 := (Cg.of_eq (by omega : 1 + sh = (d0 + (1 + sh) + d1) - (d0 + d1))).trans ((Cg.sub c1 .refl).trans (.of_eq (by omega)))
      have := Cg.eq c2 ⟨by omega, by omega⟩ ⟨by omega, by omega⟩
      omega
    · exact ⟨_, atI_nat (j := 4) rfl, go [d0, d1, 0 - 1] (by show 3 ≤ 1000; decide) (no_v (v := 0 - 1) (by simp) (by omega))⟩
  · rintro ρ m' ⟨zs, M', v8, v9, v10, v11, v12, zl, zin, b, a, rfl, rfl⟩
    walk_at "lst"
    rw [Nat.sub_self] at b
    exact q zs M' zl zin b a
theorem _root_.Dl.OkR.mono {n n' k k' : Nat} {d : D} (h : OkR n k d) (hn : n ≤ n') (hk : k ≤ k') : OkR n' k' d := ⟨okE_mono d h.lay hn, h.shw, h.lvs, Nat.le_trans h.wgt hk⟩
theorem okr_i {n : Nat} {i : Int} (h1 : -1000000000000 < i) (h2 : i < 1000000000000) : OkR n 41 (.int i) := OkR.int h1 h2 (by decide)
theorem okE_lm {α : Type} {n : Nat} {f : α → D} : ∀ (xs : List α), (∀ x ∈ xs, okE n (f x) = true) → okE (n + 1) (.lst (xs.map f)) = true := fun xs h => by
  have key : ∀ (xs : List α), (∀ x ∈ xs, okE n (f x) = true) → okEs n (xs.map f) = true := fun xs => by
    induction xs with
    | nil => intro _; rfl
    | cons x xs ih =>
      intro h
      show (okE n (f x) && okEs n (xs.map f)) = true
      rw [h x List.mem_cons_self, ih fun y hy => h y (List.mem_cons_of_mem _ hy)]
      rfl
  show (decide (0 < n + 1) && okEs n (xs.map f)) = true
  rw [key xs h, decide_eq_true (Nat.succ_pos n)]
  rfl
theorem rd_law : ∀ ds m Φ Ψ, ds.length = 1 → CLaw ClawT ds m Φ Ψ → W_law { nx := fun _ m' => Φ .non m', rt := Φ } (fun _ => Ψ) (ds.map some ++ List.replicate (20 - ds.length) none) m := by
  intro ds m Φ Ψ _ h
  obtain ⟨ns, rfl, hlen, rfl, q⟩ := h
  change W_law _ _ [some (.rol (ns.map D.int)), none, none, none, none, none, none, none, none, none, none, none, none, none, none, none, none, none, none, none] _
  unfold W_law
  walk_at "stp"
  refine ⟨⟨ns, rfl, by omega⟩, rfl, ?_⟩
  walk_at "nxt"
  refine ⟨by decide, 5, rfl, rfl, by decide, by decide, fun r r0 r1 => ?_⟩
  obtain ⟨p, hpr, hp, P, p5, p97⟩ : ∃ p : Int, atI [D.int 5, .int 7, .int 11, .int 53, .int 97] r = some (.int p) ∧ PM p ∧ Prim p ∧ 5 ≤ p ∧ p ≤ 97 := by
    have : r = 0 ∨ r = 1 ∨ r = 2 ∨ r = 3 ∨ r = 4 := by omega
    rcases this with rfl | rfl | rfl | rfl | rfl
    · exact ⟨5, rfl, ⟨by decide, by decide⟩, prim_5, by decide, by decide⟩
    · exact ⟨7, rfl, ⟨by decide, by decide⟩, prim_7, by decide, by decide⟩
    · exact ⟨11, rfl, ⟨by decide, by decide⟩, prim_11, by decide, by decide⟩
    · exact ⟨53, rfl, ⟨by decide, by decide⟩, prim_chk (p := 53) (k := 3) (by decide +kernel), by decide, by decide⟩
    · exact ⟨97, rfl, ⟨by decide, by decide⟩, prim_chk (p := 97) (k := 4) (by decide +kernel), by decide, by decide⟩
  have hp1 := hp.1
  walk_at "dx"
  refine ⟨.int p, hpr, ?_⟩
  walk_at "nxt"
  refine ⟨4, rfl, rfl, by decide, by decide, fun n n0 n1 => ?_⟩
  obtain ⟨n, rfl⟩ := Int.eq_ofNat_of_zero_le n0
  walk_at "nxt"
  rw [shl1]
  have n8 : 2 ^ n ≤ 2 ^ 3 := Nat.pow_le_pow_right (n := 2) (by decide) (by omega)
  have n81 : 1 ≤ 2 ^ n := Nat.one_le_two_pow
  refine ⟨cpow_ok (by omega), ⟨by omega, by omega⟩, ?_⟩
  rw [rngD0, Int.toNat_natCast]
  have dr : ∀ (k j : Nat) (ρ : Dl.Env) (m : MM) (Φ : D → MM → Prop), j ≠ 1 → j ≠ 2 → k ≤ 1000 → m.s = 1 → ρ[1]? = some (some (.st 1)) → ρ[2]? = some (some (.int p)) → (∀ ws : List Int, ws.length = k → InP p ws → Φ (.lst (ws.map D.int)) m) → lcW (dgName j) dYes (dCall 2 C__law_number__61 (dCons (dVar 1) (dCons (dVar 2) dNil))) ρ Φ ((List.range k).map fun i : Nat => D.int (i : Nat)) [] m := by
    intro k j ρ m Φ j1 j2 hk ms r1 r2 hΦ
    refine lcW_any (out := D.int) (fun _ y => 0 ≤ y ∧ y < p) m ?_ (fun _ => rfl) (List.range k) [] (by rw [List.length_nil, List.length_range]; show _ ≤ 16777216; omega) fun ws hw => hΦ ws (all2_len (P := fun y => 0 ≤ y ∧ y < p) hw) (fun y hy => all2_mem (P := fun y => 0 ≤ y ∧ y < p) hw y hy)
    intro x m2 Θ hs2 hΘ
    have e0 : (ρ.set j (some (D.int (x : Nat))))[1]? = some (some (.st 1)) := by rw [List.getElem?_set_ne j1]; exact r1
    have e3 : (ρ.set j (some (D.int (x : Nat))))[2]? = some (some (.int p)) := by rw [List.getElem?_set_ne j2]; exact r2
    walk_at "dx"
    rw [e0, e3]
    walk_at "dx"
    exact ⟨p, rfl, hs2.trans ms, ⟨by omega, by omega⟩, fun r r0 r1 => hΘ r ⟨r0, r1⟩⟩
  refine dr (2 ^ n) 6 _ _ _ (by decide) (by decide) (by omega) rfl rfl rfl fun tab tabl tin => ?_
  walk_at "nxt"
  refine ⟨by decide, ?_⟩
  walk_at "nxt"
  refine ⟨5, rfl, rfl, by decide, by decide, fun c c0 c1 => ?_⟩
  obtain ⟨c, rfl⟩ := Int.eq_ofNat_of_zero_le c0
  walk_at "dx"
  refine ⟨⟨by omega, by omega⟩, ?_⟩
  rw [show 1 + ((c : Nat) : Int) = ((1 + c : Nat) : Int) by omega, rngD0, Int.toNat_natCast]
  refine forW_nat (fun i ρ m' => ∃ (pts : List (List Int)) (v6 v18 : Option D), (∀ x ∈ pts, InP p x ∧ x.length = n) ∧ pts.length = i ∧ ρ = [some (D.rol (List.map D.int ns)), some (D.st 1), some (D.int p), some (D.int (n : Nat)), some (D.lst (List.map D.int tab)), some (.hnd 0), v6, none, none, none, none, none, none, none, none, none, none, none, v18, none] ∧ m' = ⟨[MO.lst (pts.map intL)], 1⟩) ?_ ?_ ⟨[], none, none, fun x hx => (by cases hx), rfl, rfl, rfl⟩
  · rintro i kk hi hkk ρ m' ⟨pts, v6, v18, pin, ptl, rfl, rfl⟩
    clear h1
    walk_at "stp"
    refine ⟨⟨by omega, by omega⟩, ?_⟩
    rw [rngD0, Int.toNat_natCast]
    refine lcW_any (out := D.int) (fun _ y => 0 ≤ y ∧ y < p) _ ?_ (fun _ => rfl) (List.range n) [] (by rw [List.length_nil, List.length_range]; show _ ≤ 16777216; omega) fun pt hpt => ?_
    · intro x m2 Θ hs2 hΘ
      walk_at "dx"
      refine ⟨by decide, 2, rfl, hs2, by decide, by decide, fun y y0 y1 => ?_⟩
      have : y = 0 ∨ y = 1 := by omega
      rcases this with rfl | rfl
      · exact ⟨.int 2, rfl, 2, rfl, hs2, ⟨by decide, by decide⟩, fun r r0 r1 => hΘ r ⟨r0, by omega⟩⟩
      · exact ⟨.int p, rfl, p, rfl, hs2, ⟨by omega, by omega⟩, fun r r0 r1 => hΘ r ⟨r0, r1⟩⟩
    have ptl2 := all2_len (P := fun y => 0 ≤ y ∧ y < p) hpt
    have ptin2 : InP p pt := fun y hy => all2_mem (P := fun y => 0 ≤ y ∧ y < p) hpt y hy
    rw [List.nil_append]
    subst h1
    refine dSeq_k fun k1 h1 => ?_
    unfold dBL
    walk_at "dx"
    have fin : ∀ x : List Int, InP p x ∧ x.length = n → k1 [some (D.rol (List.map D.int ns)), some (D.st 1), some (D.int p), some (D.int (n : Nat)), some (D.lst (List.map D.int tab)), some (.hnd 0), some (.int (i : Nat)), none, none, none, none, none, none, none, none, none, none, none, some (.lst (x.map D.int)), none] ⟨[MO.lst (pts.map intL)], 1⟩ := by
      intro x hx
      walk_at "lst"
      refine ⟨by show pts.length < 16777216; omega, ?_⟩
      change kk _ ⟨[MO.lst (pts.map intL ++ [intL x])], 1⟩
      refine hkk _ _ ⟨pts ++ [x], _, _, fun y hy => ?_, by rw [List.length_append, ptl]; rfl, rfl, by rw [List.map_append]; rfl⟩
      rcases List.mem_append.mp hy with w | w
      · exact pin y w
      · rw [List.mem_singleton.mp w]; exact hx
    by_cases e : pts.length = 0
    · rw [if_neg (fun z => z e)]
      exact fin pt ⟨ptin2, ptl2⟩
    · rw [if_pos e]
      refine ⟨4, rfl, rfl, by decide, by decide, fun y y0 y1 => ?_⟩
      walk_at "dx"
      by_cases e2 : y = 0
      · rw [if_pos e2]
        obtain ⟨pt0, hpt0⟩ : ∃ x, x = pts.getD 0 [] := ⟨_, rfl⟩
        have gp : pts[0]? = some pt0 := by rw [hpt0, List.getD_eq_getElem?_getD, List.getElem?_eq_getElem (by omega)]; rfl
        refine ⟨intL pt0, atI_nat (j := 0) (by rw [List.getElem?_map, gp]; rfl), ?_⟩
        rw [show intL pt0 = .lst (pt0.map D.int) from rfl]
        walk_at "dx"
        exact fin pt0 (pin _ (List.mem_of_getElem? gp))
      · rw [if_neg e2]
        exact fin pt ⟨ptin2, ptl2⟩
  · rintro ρ m' ⟨pts, v6, v18, pin, ptl, rfl, rfl⟩
    subst h1
    unfold dFrz
    dsimp only [List.getElem?_cons_zero, List.getElem?_cons_succ, moL, List.set_cons_zero, List.set_cons_succ]
    refine dSeq_k fun k1 h1 => ?_
    walk_at "dx"
    refine lcW_fn (inj := intL) (out := D.int) (fun x : List Int => mle tab x % p) _ pts ?_ (fun _ => rfl) (by show _ ≤ 16777216; omega) ?_
    · intro x hx m2 Θ hΘ
      rw [show intL x = .lst (x.map D.int) from rfl]
      walk_at "dx"
      have h2 := pin x hx
      exact ⟨tab, x, p, rfl, hp, tin, h2.1, by rw [tabl, h2.2], by omega, hΘ⟩
    obtain ⟨tr, htr⟩ : ∃ tr, tr = pts.map fun x => mle tab x % p := ⟨_, rfl⟩
    have trl : tr.length = 1 + c := by rw [htr, List.length_map, ptl]
    have trin : InP p tr := fun x hx => by
      rw [htr] at hx
      obtain ⟨_, _, rfl⟩ := List.mem_map.mp hx
      exact mod_in hp1
    rw [← htr]
    walk_at "nxt"
    obtain ⟨KD, hKD⟩ : ∃ KD, KD = D.tup [.lst (tab.map D.int), .lst (pts.map intL), .lst (tr.map D.int)] := ⟨_, rfl⟩
    have okI : ∀ xs : List Int, InP p xs → xs.length ≤ 8 → OkR 4 400 (.lst (xs.map D.int)) := fun xs hx hl => .lstMap (n := 3) (k := 41) (fun v hv => okr_i (by have := hx v hv; omega) (by have := hx v hv; omega)) (by omega)
    have okB : OkR 60 1048576 KD := by
      rw [hKD]
      refine (OkR.tup (n := 5) (k := 60000) (j := 1048576) (fun x hx => ?_) (by simp)).mono (by decide) (Nat.le_refl _)
      simp only [List.mem_cons, List.not_mem_nil, or_false] at hx
      rcases hx with rfl | rfl | rfl
      · exact (okI tab tin (by omega)).mono (by decide) (by decide)
      · exact .lstMap (n := 4) (k := 400) (fun x hx => okI x (pin x hx).1 (by have := (pin x hx).2; omega)) (by omega)
      · exact (okI tr trin (by omega)).mono (by decide) (by decide)
    have rc : ∀ m, cRepr2 [KD] m = fun Φ => OkR 60 1048576 KD ∧ isSeq KD = true ∧ Φ (.str (shownD KD)) m := fun m => by rw [hKD]; rfl
    have sq : isSeq KD = true := by rw [hKD]; rfl
    rw [← hKD, rc]
    refine ⟨by decide, okB, sq, ?_⟩
    walk_at "nxt"
    refine ⟨p, rfl, rfl, ⟨by omega, by omega⟩, fun mix m0 m1 => ?_⟩
    walk_at "nxt"
    refine ⟨6, rfl, rfl, by decide, by decide, fun nn nn0 nn1 => ?_⟩
    obtain ⟨nn, rfl⟩ := Int.eq_ofNat_of_zero_le nn0
    walk_at "dx"
    refine ⟨⟨by omega, by omega⟩, ?_⟩
    rw [rngD0, Int.toNat_natCast]
    refine dr nn 6 _ _ _ (by decide) (by decide) (by omega) rfl rfl rfl fun nb nbl nbin => ?_
    walk_at "nxt"
    refine ⟨nb, mix, p, rfl, hp, ⟨m0, m1⟩, ?_⟩
    refine ⟨nb, mix, p, rfl, hp, nbin, ⟨m0, m1⟩, ?_⟩
    walk_at "dx"
    walk_at "nxt"
    refine ⟨1, p, pts, tr, rfl, rfl, by omega, ⟨rfl, ?_⟩⟩
    change k1 _ ⟨[MO.dead, MO.ins "Join" (joinF p pts tr none none none)], 1⟩
    walk_at "nxt"
    refine ⟨2, p, tab, pts, rfl, rfl, by omega, ⟨rfl, ?_⟩⟩
    change k1 _ ⟨[MO.dead, MO.ins "Join" (joinF p pts tr none none none), MO.ins "JoinAnswerer" (jaF p tab pts none)], 1⟩
    walk_at "nxt"
    have jna : JnA ⟨[MO.dead, MO.ins "Join" (joinF p pts tr none none none), MO.ins "JoinAnswerer" (jaF p tab pts none)], 1⟩ 1 p pts tr n := ⟨rfl, hp, P, pin, by omega, by omega, by omega⟩
    refine ⟨1, n, p, pts, tr, "throw", rfl, .inl ⟨jna, rfl⟩, ?_⟩
    walk_at "dx"
    walk_at "nxt"
    refine ⟨rfl, 1, n, mix, p, pts, tr, rfl, .inl ⟨jna, fun h => absurd ⟨m0, m1⟩ h, fun _ => ?_⟩⟩
    change k1 _ ⟨[MO.dead, MO.ins "Join" (joinF p pts tr (some mix) (some 3) none), MO.ins "JoinAnswerer" (jaF p tab pts none), MO.ins "SumAsker" (askF p (mixV tr mix p) (List.replicate n 2) 4 none), MO.lst []], 1⟩
    walk_at "nxt"
    have ja0 : JaOK ⟨[MO.dead, MO.ins "Join" (joinF p pts tr (some mix) (some 3) none), MO.ins "JoinAnswerer" (jaF p tab pts none), MO.ins "SumAsker" (askF p (mixV tr mix p) (List.replicate n 2) 4 none), MO.lst []], 1⟩ 2 p tab pts none := ⟨rfl, hp, tin, by omega, fun _ h => by cases h⟩
    refine ⟨rfl, 2, mix, p, tab, pts, none, rfl, ja0, m0, m1, by omega, fun _ => ⟨fun x hx => ⟨(pin x hx).1, by have := (pin x hx).2; omega, by rw [tabl, (pin x hx).2]; exact Nat.le_refl _⟩, ?_⟩, fun nr h => (by cases h)⟩
    obtain ⟨nr0, hnr0⟩ : ∃ nr0, nr0 = nearS pts mix p tab.length := ⟨_, rfl⟩
    have fc : mixV tr mix p = tot2 nr0 tab (2 ^ n) % p := by rw [htr, hnr0]; exact nearS_tot tabl fun x hx => (pin x hx).2
    rw [← hnr0, fc]
    change k1 _ ⟨[MO.dead, MO.ins "Join" (joinF p pts tr (some mix) (some 3) none), MO.ins "JoinAnswerer" (jaF p tab pts (some nr0)), MO.ins "SumAsker" (askF p (tot2 nr0 tab (2 ^ n) % p) (List.replicate n 2) 4 none), MO.lst []], 1⟩
    have jb : JnB ⟨[MO.dead, MO.ins "Join" (joinF p pts tr (some mix) (some 3) none), MO.ins "JoinAnswerer" (jaF p tab pts (some nr0)), MO.ins "SumAsker" (askF p (tot2 nr0 tab (2 ^ n) % p) (List.replicate n 2) 4 none), MO.lst []], 1⟩ 1 3 4 p pts tr mix (tot2 nr0 tab (2 ^ n) % p) [] none none n :=
      ⟨rfl, ⟨rfl, rfl, hp, P, by show 0 ≤ _; omega, by rw [List.length_replicate]; omega, fun vs h => by cases h⟩, ⟨m0, m1⟩, pin, by omega, fun x hx => by cases hx⟩
    have ja : JaOK ⟨[MO.dead, MO.ins "Join" (joinF p pts tr (some mix) (some 3) none), MO.ins "JoinAnswerer" (jaF p tab pts (some nr0)), MO.ins "SumAsker" (askF p (tot2 nr0 tab (2 ^ n) % p) (List.replicate n 2) 4 none), MO.lst []], 1⟩ 2 p tab pts (some nr0) := by
      refine ⟨rfl, hp, tin, by omega, fun nr h => ?_⟩
      injection h with h
      subst h
      rw [hnr0]
      exact ⟨nearS_in hp1, nearS_len⟩
    walk_at "nxt"
    refine ⟨1, 3, 4, 2, n, p, mix, pts, tr, tab, nr0, rfl, rfl, by omega, p5, p97, tabl, by omega, hnr0, jb, ja, fun zs M' zl zin b a => ?_⟩
    rw [show (0 + 1 + 1 : Nat) = 2 from rfl, show (0 + 1 : Nat) = 1 from rfl]
    walk_at "nxt"
    obtain ⟨scl, hscl⟩ : ∃ scl, scl = tot2 (zs.foldl (foldS p) nr0) (zs.foldl (foldS p) tab) 1 % p := ⟨_, rfl⟩
    rw [← hscl] at b
    have wv : "value" = wantS none (decide (zs.length = n)) (none : Option (List Int × Int)) := (want_value.symm ▸ ⟨rfl, decide_eq_true zl, rfl⟩ : wantS none (decide (zs.length = n)) (none : Option (List Int × Int)) = "value").symm
    refine ⟨1, n, p, pts, tr, "value", rfl, .inr ⟨3, 4, mix, scl, zs, none, none, b, wv⟩, ?_⟩
    walk_at "dx"
    rw [b.ob]
    simp only [moI_ins]
    refine ⟨by decide, .non, rfl, ?_⟩
    walk_at "dx"
    obtain ⟨vh, hvh⟩ : ∃ vh, vh = mle tab zs % p := ⟨_, rfl⟩
    have vhin : 0 ≤ vh ∧ vh < p := by rw [hvh]; exact mod_in hp1
    obtain ⟨wt, hwt⟩ : ∃ wt, wt = mixV (pts.map fun x => nrF p zs 0 x (1 % p)) mix p := ⟨_, rfl⟩
    have wtin : 0 ≤ wt ∧ wt < p := by rw [hwt]; unfold mixV; exact mod_in hp1
    have fl1 : (zs.foldl (foldS p) tab).length = 2 ^ 0 := foldl_len zs tab 0 (by rw [tabl, zl, Nat.add_zero])
    have ev : gi (zs.foldl (foldS p) tab) 0 = vh := by
      have z : valAt tab zs p = mle tab zs % p := valAt_mle (by rw [tabl, zl])
      have w := a.tin.gi (z := 0) (by decide) (by rw [fl1]; decide)
      unfold valAt at z
      rw [Int.emod_eq_of_lt w.1 w.2] at z
      rw [z, hvh]
    have en : Cg p (gi (zs.foldl (foldS p) nr0) 0) wt := by
      have z := mle_app (p := p) zs [] nr0 (by rw [hnr0, nearS_len, tabl, zl]; rfl)
      rw [List.append_nil, mle_nil] at z
      have y := nearS_mle (p := p) (mix := mix) (pts := pts) (sp := zs) (fun x hx => by rw [(pin x hx).2, zl])
      rw [zl, ← tabl, ← hnr0, ← hwt] at y
      exact z.symm.trans y
    have sclE : Cg p scl (wt * vh) := by
      rw [hscl]
      refine Cg.mod.trans ?_
      show Cg p (0 + gi (zs.foldl (foldS p) nr0) 0 * gi (zs.foldl (foldS p) tab) 0) _
      rw [ev, Int.zero_add]
      exact Cg.mul en .refl
    have sin : 0 ≤ scl ∧ scl < p := by rw [hscl]; exact mod_in hp1
    walk_at "nxt"
    refine ⟨tab, zs, p, rfl, hp, tin, zin, by rw [tabl, zl], by omega, ?_⟩
    rw [← hvh]
    walk_at "nxt"
    refine ⟨p - 1, rfl, rfl, by omega, by omega, fun y y0 y1 => ?_⟩
    walk_at "dx"
    refine ⟨by omega, ?_⟩
    obtain ⟨ot, hot⟩ : ∃ ot, ot = (vh + 1 + y) % p := ⟨_, rfl⟩
    have otin : 0 ≤ ot ∧ ot < p := by rw [hot]; exact mod_in hp1
    rw [← hot]
    walk_at "nxt"
    rw [a.ob]
    simp only [moI_ins]
    walk_at "dx"
    refine ⟨rfl, 2, p, _, pts, _, rfl, a, by rw [fl1]; decide, ?_⟩
    rw [ev]
    walk_at "dx"
    rw [b.ob]
    simp only [moI_ins]
    walk_at "dx"
    refine ⟨rfl, 1, n, p, p, pts, tr, rfl, .inr ⟨3, 4, mix, scl, zs, none, none, b, fun h => absurd wv.symm h, fun _ => ⟨fun _ => ?_, fun h _ => absurd h.2 (by omega)⟩⟩⟩
    walk_at "dx"
    walk_at "nxt"
    refine ⟨pts, mix, p, zs, rfl, hp, fun x hx => ⟨(pin x hx).1, by rw [(pin x hx).2, zl]⟩, by omega, by omega, zin, ⟨m0, m1⟩, ?_⟩
    rw [← hwt]
    walk_at "dx"
    have go : k1 [some (D.rol (List.map D.int ns)), some (D.st 1), some (D.int p), some (D.int (n : Nat)), some (D.lst (List.map D.int tab)), some (D.lst (List.map intL pts)), v6, some (D.lst (List.map D.int tr)), some (D.str (shownD KD)), some (D.int mix), some (D.lst (List.map D.int nb)), some (D.hnd 1), some (D.hnd 2), some (D.lst (List.map D.int zs)), some (D.int vh), some (D.int ot), none, none, v18, none] ⟨M', 1⟩ := by
      walk_at "nxt"
      rw [b.ob]
      simp only [moI_ins]
      walk_at "dx"
      have fit : wt * vh % p = scl := by
        have z := sclE
        unfold Cg at z
        rw [← z, Int.emod_eq_of_lt sin.1 sin.2]
      refine ⟨rfl, 1, n, vh, p, pts, tr, rfl, .inr ⟨3, 4, mix, scl, zs, none, none, b, fun h => absurd wv.symm h, fun _ => ⟨fun h => absurd ⟨vhin, by rw [← hwt]; exact fit⟩ h, fun _ _ => ?_⟩⟩⟩
      have k1L : 1 < M'.length := getLt b.ob
      have b2 : JnB ⟨M'.set 1 (.ins "Join" (joinF p pts tr (some mix) (some 3) (some (zs, vh)))), 1⟩ 1 3 4 p pts tr mix scl zs none (some (zs, vh)) n := ⟨List.getElem?_set_self k1L, ⟨by show (M'.set 1 _)[3]? = _; rw [List.getElem?_set_ne (by decide)]; exact b.a.ob, by show (M'.set 1 _)[4]? = _; rw [List.getElem?_set_ne (by decide)]; exact b.a.th, b.a.pm, b.a.pr, b.a.lt, b.a.ld, b.a.se⟩, b.hm, b.pin, b.pl, b.tin⟩
      generalize M'.set 1 (.ins "Join" (joinF p pts tr (some mix) (some 3) (some (zs, vh)))) = M2 at b2 ⊢
      walk_at "dx"
      rw [b2.ob]
      simp only [moI_ins]
      refine ⟨by decide, .lst (zs.map D.int), rfl, ?_⟩
      rw [eqD_ints]
      refine ⟨okE_ints, okE_ints, ?_⟩
      rw [decide_eq_true rfl, if_neg (by decide)]
      refine ⟨by decide, .int vh, rfl, ?_⟩
      walk_at "dx"
      walk_at "nxt"
      refine ⟨1, n, p, pts, tr, "nothing", rfl, .inr ⟨3, 4, mix, scl, zs, none, some (zs, vh), b2, ?_⟩, ?_⟩
      · unfold wantS
        rw [decide_eq_true zl]
        rfl
      walk_at "dx"
      rw [← hKD, rc]
      refine ⟨by decide, okB, sq, ?_⟩
      unfold oNeS
      dsimp only
      rw [decide_eq_true rfl]
      walk_at "dx"
      walk_at "nxt"
      refine ⟨M2.length, p, tab, pts, rfl, app_len, by omega, ⟨rfl, ?_⟩⟩
      rw [set_app]
      refine ⟨by decide, by show 1 + zs.length ≤ 16777216; omega, M2.length, mix, p, zs, tab, pts, rfl, ⟨app_len, hp, tin, by omega, fun _ h => by cases h⟩, ⟨m0, m1⟩, zin, by rw [tabl, zl], by omega, by omega, fun x hx => ⟨(pin x hx).1, by rw [(pin x hx).2, zl]⟩, fun f => ?_⟩
      rw [← hnr0, ev, zl]
      walk_at "nxt"
      refine ⟨⟨by omega, by omega⟩, ?_⟩
      rw [rngD0, Int.toNat_natCast]
      refine lcW_fn (inj := fun i : Nat => D.int (i : Nat)) (out := intL) (fun k : Nat => joinP ((zs.take k).foldl (foldS p) nr0) ((zs.take k).foldl (foldS p) tab) p) _ (List.range n) ?_ (fun y => clD_pl _ (plD_ints y)) (by rw [List.length_range]; show _ ≤ 16777216; omega) ?_
      · intro k hk m2 Θ hΘ
        have hk := List.mem_range.mp hk
        walk_at "dx"
        rw [cutT (by rw [List.length_map]; omega), ← List.map_take]
        refine ⟨tab, pts, mix, p, zs.take k, n, n - k - 1, rfl, hp, by omega, tin, tabl, by rw [List.length_take]; omega, by omega, fun x hx => zin x (List.mem_of_mem_take hx), by omega, by omega, pin, ⟨m0, m1⟩, ?_⟩
        rw [← hnr0]
        exact hΘ
      rw [show ((List.range n).map fun k : Nat => joinP ((zs.take k).foldl (foldS p) nr0) ((zs.take k).foldl (foldS p) tab) p) = polysF zs nr0 tab p n from rfl]
      walk_at "lst"
      have okT : okE 64 (.tup [.lst ((polysF zs nr0 tab p n).map intL), .int vh]) = true := by
        have h1 : okE 63 (.lst ((polysF zs nr0 tab p n).map intL)) = true := okE_lm _ fun x _ => okE_ints
        show (true && (okE 63 (.lst ((polysF zs nr0 tab p n).map intL)) && (true && true))) = true
        rw [h1]
        rfl
      rw [eqD_self okT]
      exact ⟨by decide, okT, okT, q _⟩
    by_cases e : wt = 0
    · rw [if_neg (fun z => z e)]
      exact go
    · rw [if_pos e]
      rw [b.ob]
      simp only [moI_ins]
      walk_at "dx"
      refine ⟨rfl, 1, n, ot, p, pts, tr, rfl, .inr ⟨3, 4, mix, scl, zs, none, none, b, fun h => absurd wv.symm h, fun _ => ⟨fun _ => ?_, fun _ h => ?_⟩⟩⟩
      · walk_at "dx"
        exact go
      · exfalso
        rw [← hwt] at h
        have z : Cg p (wt * ot) (wt * vh) := by
          refine Cg.trans ?_ sclE
          unfold Cg
          rw [h, Int.emod_eq_of_lt sin.1 sin.2]
        have nz : ¬ Cg p wt 0 := fun z => e (Cg.eq z wtin ⟨by omega, by omega⟩)
        have w := Cg.eq (P.cancel z nz) otin vhin
        rw [hot] at w
        rcases Int.lt_or_le (vh + 1 + y) p with q1 | q1
        · rw [Int.emod_eq_of_lt (by omega) q1] at w; omega
        · have w2 : (vh + 1 + y) % p = vh + 1 + y - p := by
            rw [show vh + 1 + y = (vh + 1 + y - p) + p * 1 by omega, Int.add_mul_emod_self_left, Int.emod_eq_of_lt (by omega) (by omega)]
            omega
          rw [w2] at w; omega

structure Txt (K : PySem.W.Frag) (mg : Str → Option Value) : Prop where
  d_point_table : DefT K mg "point_table" s_point_table ["point", "p"]
  d_fold : DefT K mg "fold" s_fold ["table", "number", "p"]
  d_nearness : DefT K mg "nearness" s_nearness ["point", "other", "p"]
  d_power : DefT K mg "power" s_power ["base", "exponent", "p"]
  d_inverse : DefT K mg "inverse" s_inverse ["number", "p"]
  d_is_number : DefT K mg "is_number" s_is_number ["number", "p"]
  d_weights : DefT K mg "weights" s_weights ["many", "t", "p"]
  d_value : DefT K mg "value" s_value ["values", "t", "p"]
  d_corners : DefT K mg "corners" s_corners ["values", "p"]
  d_mixed : DefT K mg "mixed" s_mixed ["numbers", "mix", "p"]
  d_join_answers : DefT K mg "join_answers" s_join_answers ["answerer", "throws"]
  d__law_stream : DefT K mg "_law_stream" s__law_stream ["_law_script"]
  d__law_take : DefT K mg "_law_take" s__law_take ["_law_row", "_law_many"]
  d__law_number : DefT K mg "_law_number" s__law_number ["_law_row", "_law_p"]
  d__law_near : DefT K mg "_law_near" s__law_near ["_law_one", "_law_two", "_law_p"]
  d__law_corner : DefT K mg "_law_corner" s__law_corner ["_law_k", "_law_dims"]
  d__law_value : DefT K mg "_law_value" s__law_value ["_law_table", "_law_point", "_law_p"]
  d__law_mixed : DefT K mg "_law_mixed" s__law_mixed ["_law_numbers", "_law_mix", "_law_p"]
  d__law_weight : DefT K mg "_law_weight" s__law_weight ["_law_points", "_law_mix", "_law_spot", "_law_p"]
  d__law_join_poly : DefT K mg "_law_join_poly" s__law_join_poly ["_law_table", "_law_points", "_law_mix", "_law_before", "_law_p"]
  d__law_step : DefT K mg "_law_step" s__law_step ["_law_join", "_law_kind", "_law_given"]
  d__law_wrong_steps : DefT K mg "_law_wrong_steps" s__law_wrong_steps ["_law_join", "_law_due", "_law_p"]
  d__law_rounds : DefT K mg "_law_rounds" s__law_rounds ["_law_row", "_law_join", "_law_answerer", "_law_table", "_law_points", "_law_mix", "_law_p"]
  d_law : DefT K mg "law" s_law ["_law_script"]
  mi_SumAsker : IniT K mg "SumAsker" "SumAsker.__init__" s_SumAsker_init ["self", "p", "claim", "degrees"]
  mi_Join : IniT K mg "Join" "Join.__init__" s_Join_init ["self", "p", "points", "claims"]
  mi_JoinAnswerer : IniT K mg "JoinAnswerer" "JoinAnswerer.__init__" s_JoinAnswerer_init ["self", "p", "table", "points"]
  mm_Join_answer : MthT K "Join" "answer" "Join.answer" s_Join_answer ["self", "values"]
  mm_Join_answer_value : MthT K "Join" "answer_value" "Join.answer_value" s_Join_answer_value ["self", "number"]
  mm_Join_throw : MthT K "Join" "throw" "Join.throw" s_Join_throw ["self", "number"]
  mm_Join_wants : MthT K "Join" "wants" "Join.wants" s_Join_wants ["self"]
  mm_JoinAnswerer_poly : MthT K "JoinAnswerer" "poly" "JoinAnswerer.poly" s_JoinAnswerer_poly ["self"]
  mm_JoinAnswerer_throw : MthT K "JoinAnswerer" "throw" "JoinAnswerer.throw" s_JoinAnswerer_throw ["self", "number"]
  mm_JoinAnswerer_value : MthT K "JoinAnswerer" "value" "JoinAnswerer.value" s_JoinAnswerer_value ["self"]
  mm_SumAsker_accept : MthT K "SumAsker" "accept" "SumAsker.accept" s_SumAsker_accept ["self", "values"]
  mm_SumAsker_is_done : MthT K "SumAsker" "is_done" "SumAsker.is_done" s_SumAsker_is_done ["self"]
  mm_SumAsker_throw : MthT K "SumAsker" "throw" "SumAsker.throw" s_SumAsker_throw ["self", "number"]
  f_claim : FldT K ["SumAsker"] "claim"
  f_claims : FldT K ["Join"] "claims"
  f_degrees : FldT K ["SumAsker"] "degrees"
  f_mix : FldT K ["Join"] "mix"
  f_near : FldT K ["JoinAnswerer"] "near"
  f_next_claim : FldT K ["Join"] "next_claim"
  f_next_point : FldT K ["Join"] "next_point"
  f_p : FldT K ["SumAsker", "Join", "JoinAnswerer"] "p"
  f_points : FldT K ["Join", "JoinAnswerer"] "points"
  f_sent : FldT K ["SumAsker"] "sent"
  f_sums : FldT K ["Join"] "sums"
  f_table : FldT K ["JoinAnswerer"] "table"
  f_throws : FldT K ["SumAsker"] "throws"
  n_abs : mg "abs" = none
  n_all : mg "all" = none
  n_enumerate : mg "enumerate" = none
  n_int : mg "int" = none
  n_isinstance : mg "isinstance" = none
  n_len : mg "len" = none
  n_list : mg "list" = none
  n_range : mg "range" = none
  n_repr : mg "repr" = none
  n_reversed : mg "reversed" = none
  n_sum : mg "sum" = none
  n_tuple : mg "tuple" = none
  e_FieldError : ErrT K mg "FieldError" "FieldError.__init__" s_FieldError_init ["self", "number"] ["number"]
  i_FieldError : InitB K mg "LayeraskError"
  e_TalkError : ErrT K mg "TalkError" "TalkError.__init__" s_TalkError_init ["self", "step"] ["step"]
  i_TalkError : InitB K mg "LayeraskError"
  g_TalkError : mg "TalkError" = some (.ref (kcl K "TalkError"))
  x_TalkError : CatT K "TalkError" [("FieldError", false), ("TalkError", true)]
  s_TalkError : ErrSs K [("FieldError", false), ("TalkError", true)] ["number", "step"]
theorem f_claim_fl {K : PySem.W.Frag} {mg : Str → Option Value} (T : Txt K mg) : FldT K (flT "claim") "claim" := by
  rw [show flT "claim" = ["SumAsker"] from by rfl]
  exact T.f_claim
theorem f_claims_fl {K : PySem.W.Frag} {mg : Str → Option Value} (T : Txt K mg) : FldT K (flT "claims") "claims" := by
  rw [show flT "claims" = ["Join"] from by rfl]
  exact T.f_claims
theorem f_degrees_fl {K : PySem.W.Frag} {mg : Str → Option Value} (T : Txt K mg) : FldT K (flT "degrees") "degrees" := by
  rw [show flT "degrees" = ["SumAsker"] from by rfl]
  exact T.f_degrees
theorem f_mix_fl {K : PySem.W.Frag} {mg : Str → Option Value} (T : Txt K mg) : FldT K (flT "mix") "mix" := by
  rw [show flT "mix" = ["Join"] from by rfl]
  exact T.f_mix
theorem f_near_fl {K : PySem.W.Frag} {mg : Str → Option Value} (T : Txt K mg) : FldT K (flT "near") "near" := by
  rw [show flT "near" = ["JoinAnswerer"] from by rfl]
  exact T.f_near
theorem f_next_claim_fl {K : PySem.W.Frag} {mg : Str → Option Value} (T : Txt K mg) : FldT K (flT "next_claim") "next_claim" := by
  rw [show flT "next_claim" = ["Join"] from by rfl]
  exact T.f_next_claim
theorem f_next_point_fl {K : PySem.W.Frag} {mg : Str → Option Value} (T : Txt K mg) : FldT K (flT "next_point") "next_point" := by
  rw [show flT "next_point" = ["Join"] from by rfl]
  exact T.f_next_point
theorem f_p_fl {K : PySem.W.Frag} {mg : Str → Option Value} (T : Txt K mg) : FldT K (flT "p") "p" := by
  rw [show flT "p" = ["SumAsker", "Join", "JoinAnswerer"] from by rfl]
  exact T.f_p
theorem f_points_fl {K : PySem.W.Frag} {mg : Str → Option Value} (T : Txt K mg) : FldT K (flT "points") "points" := by
  rw [show flT "points" = ["Join", "JoinAnswerer"] from by rfl]
  exact T.f_points
theorem f_sent_fl {K : PySem.W.Frag} {mg : Str → Option Value} (T : Txt K mg) : FldT K (flT "sent") "sent" := by
  rw [show flT "sent" = ["SumAsker"] from by rfl]
  exact T.f_sent
theorem f_sums_fl {K : PySem.W.Frag} {mg : Str → Option Value} (T : Txt K mg) : FldT K (flT "sums") "sums" := by
  rw [show flT "sums" = ["Join"] from by rfl]
  exact T.f_sums
theorem f_table_fl {K : PySem.W.Frag} {mg : Str → Option Value} (T : Txt K mg) : FldT K (flT "table") "table" := by
  rw [show flT "table" = ["JoinAnswerer"] from by rfl]
  exact T.f_table
theorem f_throws_fl {K : PySem.W.Frag} {mg : Str → Option Value} (T : Txt K mg) : FldT K (flT "throws") "throws" := by
  rw [show flT "throws" = ["SumAsker"] from by rfl]
  exact T.f_throws
theorem ok_FieldError {P : Program} {w : World} {K : PySem.W.Frag} {mg : Str → Option Value} {base : Heap} (T : Txt K mg) : ErrOk P w K mg base "FieldError" ["number"] := by
  obtain ⟨m, x, hno, fI, fd, i1, i2, F, b⟩ := T.e_FieldError
  exact ⟨m, x, by decide, fI, fd, _, i1, i2, b, err_init1 F sc_FieldError_init rfl (fun _ _ _ _ _ _ => ps_expr (pe_binit (by rfl) T.i_FieldError.mgb T.i_FieldError.ini (pa_cons (pe_var (i := 0) rfl (.inl rfl)) (pa_cons pe_str pa_nil)))) (fun _ _ _ _ _ _ => ps_ost (pe_var (i := 0) rfl (.inl rfl)) (pe_var (i := 1) rfl (.inl rfl))) x (hno "number" (by decide))⟩
theorem ok_TalkError {P : Program} {w : World} {K : PySem.W.Frag} {mg : Str → Option Value} {base : Heap} (T : Txt K mg) : ErrOk P w K mg base "TalkError" ["step"] := by
  obtain ⟨m, x, hno, fI, fd, i1, i2, F, b⟩ := T.e_TalkError
  exact ⟨m, x, by decide, fI, fd, _, i1, i2, b, err_init1 F sc_TalkError_init rfl (fun _ _ _ _ _ _ => ps_expr (pe_binit (by rfl) T.i_TalkError.mgb T.i_TalkError.ini (pa_cons (pe_var (i := 0) rfl (.inl rfl)) (pa_cons pe_str pa_nil)))) (fun _ _ _ _ _ _ => ps_ost (pe_var (i := 0) rfl (.inl rfl)) (pe_var (i := 1) rfl (.inl rfl))) x (hno "step" (by decide))⟩
theorem ok_point_table {P : Program} {w : World} {K : PySem.W.Frag} {mg : Str → Option Value} {base : Heap} (T : Txt K mg) : Ok P w K mg base "point_table" 1 ["point", "p"] C_point_table := by
  obtain ⟨f, fd, F, hm, b⟩ := T.d_point_table
  exact ⟨f, fd, hm, F.kp, b, okD (W := W_point_table) (k := 0) F sc_point_table (fun cdv A outer s H E hr => jss_cons (js_set 2 sc_point_table.nd rfl (Or.inl rfl) (je_lst (ja_cons (je_op op_mod opl_mod (je_int) (je_var 1)) (ja_nil)))) (jss_cons (js_for passD rfl (ji_list (je_var 0)) (jg_name (js := [3]) 3 (by decide) sc_point_table.nd rfl (Or.inr rfl)) (jss_cons (js_setLc (own := [("entry", 6)]) 4 rfl sc_point_table.nd rfl rfl (sw_true rfl rfl rfl (by decide +kernel)) (ji_list (je_var 2)) (blkOk_by (N := ["point", "p", "table", "number", "low", "high", "entry"]) (sc := defScope s_point_table) (by decide +kernel)) (fun _ _ _ _ _ => jg_name (js := [6]) 6 (by decide) sc_point_table.nd rfl (Or.inl rfl)) (fun _ _ _ _ _ => jts_nil) (fun _ _ _ _ _ => je_op op_mod opl_mod (je_op op_mulC opl_mul (je_op op_sub opl_sub (je_int) (je_var 3)) (je_var 6)) (je_var 1))) (jss_cons (js_setLc (own := [("entry", 6)]) 5 rfl sc_point_table.nd rfl rfl (sw_true rfl rfl rfl (by decide +kernel)) (ji_list (je_var 2)) (blkOk_by (N := ["point", "p", "table", "number", "low", "high", "entry"]) (sc := defScope s_point_table) (by decide +kernel)) (fun _ _ _ _ _ => jg_name (js := [6]) 6 (by decide) sc_point_table.nd rfl (Or.inl rfl)) (fun _ _ _ _ _ => jts_nil) (fun _ _ _ _ _ => je_op op_mod opl_mod (je_op op_mulC opl_mul (je_var 3) (je_var 6)) (je_var 1))) (jss_one (js_set 2 sc_point_table.nd rfl (Or.inl rfl) (je_op op_addAll opl_add (je_var 4) (je_var 5))))))) (jss_one (js_ret (je_var 2))))) rd_point_table⟩
theorem ok_fold {P : Program} {w : World} {K : PySem.W.Frag} {mg : Str → Option Value} {base : Heap} (T : Txt K mg) : Ok P w K mg base "fold" 1 ["table", "number", "p"] C_fold := by
  obtain ⟨f, fd, F, hm, b⟩ := T.d_fold
  exact ⟨f, fd, hm, F.kp, b, okD (W := W_fold) (k := 0) F sc_fold (fun cdv A outer s H E hr => jss_cons (js_set 3 sc_fold.nd rfl (Or.inl rfl) (je_op op_fdivW opl_div (je_callB call_len cbl_len (by rfl) T.n_len bt_len (ja_cons (je_var 0) (ja_nil))) (je_int))) (jss_one (js_ret (je_lc (own := [("k", 4)]) rfl sc_fold.nd (ji_range1 (by rfl) T.n_range (ja_cons (je_var 3) (ja_nil))) (blkOk_by (N := ["table", "number", "p", "half", "k"]) (sc := defScope s_fold) (by decide +kernel)) (fun _ _ _ _ _ => jg_name (js := [4]) 4 (by decide) sc_fold.nd rfl (Or.inl rfl)) (fun _ _ _ _ _ => jts_nil) (fun _ _ _ _ _ => je_op op_mod opl_mod (je_op op_addAll opl_add (je_ix (je_var 0) (je_op op_mulC opl_mul (je_int) (je_var 4))) (je_op op_mulC opl_mul (je_var 1) (je_op op_sub opl_sub (je_ix (je_var 0) (je_op op_addAll opl_add (je_op op_mulC opl_mul (je_int) (je_var 4)) (je_int))) (je_ix (je_var 0) (je_op op_mulC opl_mul (je_int) (je_var 4)))))) (je_var 2)))))) rd_fold⟩
theorem ok_nearness {P : Program} {w : World} {K : PySem.W.Frag} {mg : Str → Option Value} {base : Heap} (T : Txt K mg) : Ok P w K mg base "nearness" 1 ["point", "other", "p"] C_nearness__h := by
  obtain ⟨f, fd, F, hm, b⟩ := T.d_nearness
  exact ⟨f, fd, hm, F.kp, b, okD (W := W_nearness__h) (k := 0) F sc_nearness (fun cdv A outer s H E hr => jss_cons (js_set 3 sc_nearness.nd rfl (Or.inl rfl) (je_op op_mod opl_mod (je_int) (je_var 2))) (jss_cons (js_for passD rfl (ji_enumerate (by rfl) T.n_enumerate (ja_cons (je_var 0) (ja_nil))) (jg_tup (js := [4, 5]) [4, 5] rfl (by decide) (pgs_cons (pg_name (i := 4) sc_nearness.nd rfl (Or.inl rfl)) (pgs_cons (pg_name (i := 5) sc_nearness.nd rfl (Or.inl rfl)) (pgs_nil)))) (jss_one (js_set 3 sc_nearness.nd rfl (Or.inl rfl) (je_op op_mod opl_mod (je_op op_mulC opl_mul (je_var 3) (je_op op_addAll opl_add (je_op op_mulC opl_mul (je_var 5) (je_ix (je_var 1) (je_var 4))) (je_op op_mulC opl_mul (je_op op_sub opl_sub (je_int) (je_var 5)) (je_op op_sub opl_sub (je_int) (je_ix (je_var 1) (je_var 4)))))) (je_var 2))))) (jss_one (js_ret (je_var 3))))) rd_nearness__h⟩
theorem ok_power {P : Program} {w : World} {K : PySem.W.Frag} {mg : Str → Option Value} {base : Heap} (T : Txt K mg) : Ok P w K mg base "power" 1 ["base", "exponent", "p"] C_power := by
  obtain ⟨f, fd, F, hm, b⟩ := T.d_power
  exact ⟨f, fd, hm, F.kp, b, okD (W := W_power) (k := 0) F sc_power (fun cdv A outer s H E hr => jss_cons (js_set 3 sc_power.nd rfl (Or.inl rfl) (je_op op_mod opl_mod (je_int) (je_var 2))) (jss_cons (js_set 4 sc_power.nd rfl (Or.inl rfl) (je_op op_mod opl_mod (je_var 0) (je_var 2))) (jss_cons (js_while passD (jt_cmp op_gt opl_gt (je_var 1) (je_int) (nomark _)) (jss_cons (js_if (jt_cmp (op_eqD hr.units) opl_eq (je_op op_mod opl_mod (je_var 1) (je_int)) (je_int) (nomark _)) (jss_one (js_set 3 sc_power.nd rfl (Or.inl rfl) (je_op op_mod opl_mod (je_op op_mulC opl_mul (je_var 3) (je_var 4)) (je_var 2)))) (jss_nil)) (jss_cons (js_set 4 sc_power.nd rfl (Or.inl rfl) (je_op op_mod opl_mod (je_op op_mulC opl_mul (je_var 4) (je_var 4)) (je_var 2))) (jss_one (js_aug 1 sc_power.nd rfl (Or.inl rfl) (je_int) iop_fdiv opl_idiv))))) (jss_one (js_ret (je_var 3)))))) rd_power⟩
theorem ok_inverse {P : Program} {w : World} {K : PySem.W.Frag} {mg : Str → Option Value} {base : Heap} (T : Txt K mg) (G_FieldError : ErrOk P w K mg base "FieldError" ["number"]) (G_power : Ok P w K mg base "power" 1 ["base", "exponent", "p"] C_power) : Ok P w K mg base "inverse" 3 ["number", "p"] C_inverse := by
  obtain ⟨f, fd, F, hm, b⟩ := T.d_inverse
  exact ⟨f, fd, hm, F.kp, b, okD (W := W_inverse) (k := 2) F sc_inverse (fun cdv A outer s H E hr => jss_cons (js_if (jt_cmp (op_eqD hr.units) opl_eq (je_op op_mod opl_mod (je_var 0) (je_var 1)) (je_int) (nomark _)) (jss_one (js_raise (c := "FieldError") (fs := ["number"]) rfl takesD G_FieldError (by rfl) (hr.mono (by decide)) (ja_cons (je_var 0) (ja_nil)))) (jss_nil)) (jss_one (js_ret (je_callO G_power takesD (hr.mono (by decide)) (by rfl) (ja_cons (je_var 0) (ja_cons (je_op op_sub opl_sub (je_var 1) (je_int)) (ja_cons (je_var 1) (ja_nil)))) 3)))) rd_inverse⟩
theorem ok_is_number {P : Program} {w : World} {K : PySem.W.Frag} {mg : Str → Option Value} {base : Heap} (T : Txt K mg) : Ok P w K mg base "is_number" 1 ["number", "p"] C_is_number := by
  obtain ⟨f, fd, F, hm, b⟩ := T.d_is_number
  exact ⟨f, fd, hm, F.kp, b, okD (W := W_is_number) (k := 0) F sc_is_number (fun cdv A outer s H E hr => jss_one (js_ret (je_chain op_le opl_le op_lt opl_lt (je_int) (je_var 0) (je_var 1)))) rd_is_number⟩
theorem ok_weights {P : Program} {w : World} {K : PySem.W.Frag} {mg : Str → Option Value} {base : Heap} (T : Txt K mg) (G_inverse : Ok P w K mg base "inverse" 3 ["number", "p"] C_inverse) : Ok P w K mg base "weights" 4 ["many", "t", "p"] C_weights := by
  obtain ⟨f, fd, F, hm, b⟩ := T.d_weights
  exact ⟨f, fd, hm, F.kp, b, okDQ (W := W_weights) (k := 3) F sc_weights (fun cdv A outer s H E hr => jss_cons (js_set 3 sc_weights.nd rfl (Or.inl rfl) (je_lstM (ja_nil))) (jss_cons (js_for passD rfl (ji_range1 (by rfl) T.n_range (ja_cons (je_var 0) (ja_nil))) (jg_name (js := [4]) 4 (by decide) sc_weights.nd rfl (Or.inl rfl)) (jss_cons (js_set 5 sc_weights.nd rfl (Or.inl rfl) (je_int)) (jss_cons (js_set 6 sc_weights.nd rfl (Or.inl rfl) (je_int)) (jss_cons (js_for passD rfl (ji_range1 (by rfl) T.n_range (ja_cons (je_var 0) (ja_nil))) (jg_name (js := [7]) 7 (by decide) sc_weights.nd rfl (Or.inl rfl)) (jss_one (js_if (jt_cmp (op_neD hr.units) opl_ne (je_var 7) (je_var 4) (nomark _)) (jss_cons (js_set 5 sc_weights.nd rfl (Or.inl rfl) (je_op op_mod opl_mod (je_op op_mulC opl_mul (je_var 5) (je_op op_sub opl_sub (je_var 1) (je_var 7))) (je_var 2))) (jss_one (js_set 6 sc_weights.nd rfl (Or.inl rfl) (je_op op_mod opl_mod (je_op op_mulC opl_mul (je_var 6) (je_op op_sub opl_sub (je_var 4) (je_var 7))) (je_var 2))))) (jss_nil)))) (jss_one (js_expr (je_mL PySem.F.slot_list_append PySem.F.type_list_append mt_append mtl_app (je_var 3) (ja_cons (je_op op_mod opl_mod (je_op op_mulC opl_mul (je_var 5) (je_callO G_inverse takesD (hr.mono (by decide)) (by rfl) (ja_cons (je_var 6) (ja_cons (je_var 2) (ja_nil))) 2)) (je_var 2)) (ja_nil))))))))) (jss_one (js_ret (je_var 3))))) rd_weights⟩
theorem ok_value {P : Program} {w : World} {K : PySem.W.Frag} {mg : Str → Option Value} {base : Heap} (T : Txt K mg) (G_weights : Ok P w K mg base "weights" 4 ["many", "t", "p"] C_weights) : Ok P w K mg base "value" 5 ["values", "t", "p"] C_value := by
  obtain ⟨f, fd, F, hm, b⟩ := T.d_value
  exact ⟨f, fd, hm, F.kp, b, okD (W := W_value) (k := 4) F sc_value (fun cdv A outer s H E hr => jss_cons (js_if (jt_cmp op_lt opl_lt (je_var 1) (je_callB call_len cbl_len (by rfl) T.n_len bt_len (ja_cons (je_var 0) (ja_nil))) (nomark _)) (jss_one (js_ret (je_ix (je_var 0) (je_var 1)))) (jss_nil)) (jss_cons (js_set 3 sc_value.nd rfl (Or.inl rfl) (je_int)) (jss_cons (js_for passD rfl (ji_enumerate (by rfl) T.n_enumerate (ja_cons (je_callO G_weights takesD (hr.mono (by decide)) (by rfl) (ja_cons (je_callB call_len cbl_len (by rfl) T.n_len bt_len (ja_cons (je_var 0) (ja_nil))) (ja_cons (je_var 1) (ja_cons (je_var 2) (ja_nil)))) 3) (ja_nil))) (jg_tup (js := [4, 5]) [4, 5] rfl (by decide) (pgs_cons (pg_name (i := 4) sc_value.nd rfl (Or.inl rfl)) (pgs_cons (pg_name (i := 5) sc_value.nd rfl (Or.inl rfl)) (pgs_nil)))) (jss_one (js_aug 3 sc_value.nd rfl (Or.inl rfl) (je_op op_mulC opl_mul (je_ix (je_var 0) (je_var 4)) (je_var 5)) iop_add opl_addI))) (jss_one (js_ret (je_op op_mod opl_mod (je_var 3) (je_var 2))))))) rd_value⟩
theorem ok_corners {P : Program} {w : World} {K : PySem.W.Frag} {mg : Str → Option Value} {base : Heap} (T : Txt K mg) : Ok P w K mg base "corners" 1 ["values", "p"] C_corners := by
  obtain ⟨f, fd, F, hm, b⟩ := T.d_corners
  exact ⟨f, fd, hm, F.kp, b, okD (W := W_corners) (k := 0) F sc_corners (fun cdv A outer s H E hr => jss_cons (js_if (jt_cmp (op_eqD hr.units) opl_eq (je_callB call_len cbl_len (by rfl) T.n_len bt_len (ja_cons (je_var 0) (ja_nil))) (je_int) (nomark _)) (jss_one (js_ret (je_op op_mod opl_mod (je_op op_mulC opl_mul (je_int) (je_ix (je_var 0) (je_int))) (je_var 1)))) (jss_nil)) (jss_one (js_ret (je_op op_mod opl_mod (je_op op_addAll opl_add (je_ix (je_var 0) (je_int)) (je_ix (je_var 0) (je_int))) (je_var 1))))) rd_corners⟩
theorem ok_I_SumAsker {P : Program} {w : World} {K : PySem.W.Frag} {mg : Str → Option Value} {base : Heap} (T : Txt K mg) : OkI P w K mg base "SumAsker" 1 ["self", "p", "claim", "degrees"] C_SumAsker_init := by
  obtain ⟨f, fd, F, hm, M, b⟩ := T.mi_SumAsker
  exact ⟨f, fd, hm, M, b, okD (W := (W_SumAsker_init flT)) (k := 0) F sc_SumAsker_init (fun cdv A outer s H E hr => jss_cons (js_fld (f_p_fl T) (je_var 0) (je_var 1)) (jss_cons (js_fld (f_claim_fl T) (je_var 0) (je_var 2)) (jss_cons (js_fld (f_degrees_fl T) (je_var 0) (je_callTy call_list_of cbl_list (by rfl) T.n_list bt_list (ja_cons (je_var 3) (ja_nil)))) (jss_cons (js_fld (f_throws_fl T) (je_var 0) (je_lstM (ja_nil))) (jss_one (js_fld (f_sent_fl T) (je_var 0) (je_non))))))) (rd_SumAsker_init fl_SumAsker)⟩
theorem ok_M_SumAsker_is_done {P : Program} {w : World} {K : PySem.W.Frag} {mg : Str → Option Value} {base : Heap} (T : Txt K mg) : OkM P w K base mg "SumAsker" "is_done" 1 ["self"] C_SumAsker_is_done := by
  obtain ⟨f, fd, F, hc, hm, b⟩ := T.mm_SumAsker_is_done
  exact ⟨f, fd, hc, hm, b, okD (W := (W_SumAsker_is_done flT)) (k := 0) F sc_SumAsker_is_done (fun cdv A outer s H E hr => jss_one (js_ret (je_cmp (op_eqD hr.units) opl_eq (je_callB call_len cbl_len (by rfl) T.n_len bt_len (ja_cons (je_fld (f_throws_fl T) (je_var 0)) (ja_nil))) (je_callB call_len cbl_len (by rfl) T.n_len bt_len (ja_cons (je_fld (f_degrees_fl T) (je_var 0)) (ja_nil))) (nomark _)))) (rd_SumAsker_is_done fl_SumAsker)⟩
theorem ok_M_SumAsker_accept {P : Program} {w : World} {K : PySem.W.Frag} {mg : Str → Option Value} {base : Heap} (T : Txt K mg) (G_TalkError : ErrOk P w K mg base "TalkError" ["step"]) (G_M_SumAsker_is_done : OkM P w K base mg "SumAsker" "is_done" 1 ["self"] C_SumAsker_is_done) (G_corners : Ok P w K mg base "corners" 1 ["values", "p"] C_corners) (G_is_number : Ok P w K mg base "is_number" 1 ["number", "p"] C_is_number) : OkM P w K base mg "SumAsker" "accept" 3 ["self", "values"] C_SumAsker_accept := by
  obtain ⟨f, fd, F, hc, hm, b⟩ := T.mm_SumAsker_accept
  exact ⟨f, fd, hc, hm, b, okD (W := (W_SumAsker_accept flT)) (k := 2) F sc_SumAsker_accept (fun cdv A outer s H E hr => jss_cons (js_if (PW.pt (jw_or (jt_val (je_meth0 (mn := "is_done") (lv := 1) (tab := [("SumAsker", C_SumAsker_is_done)]) (okMs_cons G_M_SumAsker_is_done rfl (by decide) okMs_nil) takesD (hr.mono (by decide)) (je_var 0))) (jw_or1 (jt_cmp op_notN opl_notN (je_fld (f_sent_fl T) (je_var 0)) (je_non) (nomark _))))) (jss_one (js_raise (c := "TalkError") (fs := ["step"]) rfl takesD G_TalkError (by rfl) (hr.mono (by decide)) (ja_cons (je_str) (ja_nil)))) (jss_nil)) (jss_cons (js_if (jt_cmp (op_neD hr.units) opl_ne (je_callB call_len cbl_len (by rfl) T.n_len bt_len (ja_cons (je_var 1) (ja_nil))) (je_op op_addAll opl_add (je_ix (je_fld (f_degrees_fl T) (je_var 0)) (je_callB call_len cbl_len (by rfl) T.n_len bt_len (ja_cons (je_fld (f_throws_fl T) (je_var 0)) (ja_nil)))) (je_int)) (nomark _)) (jss_one (js_ret (je_bl))) (jss_nil)) (jss_cons (js_if (jt_not (jt_val (je_callB (cr_all rfl) cbl_all (by rfl) T.n_all bt_all (ja_cons (je_lc (own := [("number", 2)]) rfl sc_SumAsker_accept.nd (ji_list (je_var 1)) (blkOk_by (N := ["self", "values", "number"]) (sc := defScope s_SumAsker_accept) (by decide +kernel)) (fun _ _ _ _ _ => jg_name (js := [2]) 2 (by decide) sc_SumAsker_accept.nd rfl (Or.inl rfl)) (fun _ _ _ _ _ => jts_nil) (fun _ _ _ _ _ => je_callO G_is_number takes0 (hr.mono (by decide)) (by rfl) (ja_cons (je_var 2) (ja_cons (je_fld (f_p_fl T) (je_var 0)) (ja_nil))) 2)) (ja_nil))))) (jss_one (js_ret (je_bl))) (jss_nil)) (jss_cons (js_if (jt_cmp (op_neD hr.units) opl_ne (je_callO G_corners takesD (hr.mono (by decide)) (by rfl) (ja_cons (je_var 1) (ja_cons (je_fld (f_p_fl T) (je_var 0)) (ja_nil))) 2) (je_fld (f_claim_fl T) (je_var 0)) (nomark _)) (jss_one (js_ret (je_bl))) (jss_nil)) (jss_cons (js_fld (f_sent_fl T) (je_var 0) (je_callTy call_list_of cbl_list (by rfl) T.n_list bt_list (ja_cons (je_var 1) (ja_nil)))) (jss_one (js_ret (je_bl)))))))) (rd_SumAsker_accept fl_SumAsker)⟩
theorem ok_M_SumAsker_throw {P : Program} {w : World} {K : PySem.W.Frag} {mg : Str → Option Value} {base : Heap} (T : Txt K mg) (G_TalkError : ErrOk P w K mg base "TalkError" ["step"]) (G_value : Ok P w K mg base "value" 5 ["values", "t", "p"] C_value) : OkM P w K base mg "SumAsker" "throw" 6 ["self", "number"] C_SumAsker_throw := by
  obtain ⟨f, fd, F, hc, hm, b⟩ := T.mm_SumAsker_throw
  exact ⟨f, fd, hc, hm, b, okD (W := (W_SumAsker_throw flT)) (k := 5) F sc_SumAsker_throw (fun cdv A outer s H E hr => jss_cons (js_if (jt_cmp op_isN opl_isN (je_fld (f_sent_fl T) (je_var 0)) (je_non) (nomark _)) (jss_one (js_raise (c := "TalkError") (fs := ["step"]) rfl takesD G_TalkError (by rfl) (hr.mono (by decide)) (ja_cons (je_str) (ja_nil)))) (jss_nil)) (jss_cons (js_fld (f_claim_fl T) (je_var 0) (je_callO G_value takesD (hr.mono (by decide)) (by rfl) (ja_cons (je_fld (f_sent_fl T) (je_var 0)) (ja_cons (je_var 1) (ja_cons (je_fld (f_p_fl T) (je_var 0)) (ja_nil)))) 3)) (jss_cons (js_expr (je_mL PySem.F.slot_list_append PySem.F.type_list_append mt_append mtl_app (je_fld (f_throws_fl T) (je_var 0)) (ja_cons (je_var 1) (ja_nil)))) (jss_one (js_fld (f_sent_fl T) (je_var 0) (je_non)))))) (rd_SumAsker_throw fl_SumAsker)⟩
theorem ok_mixed {P : Program} {w : World} {K : PySem.W.Frag} {mg : Str → Option Value} {base : Heap} (T : Txt K mg) : Ok P w K mg base "mixed" 1 ["numbers", "mix", "p"] C_mixed := by
  obtain ⟨f, fd, F, hm, b⟩ := T.d_mixed
  exact ⟨f, fd, hm, F.kp, b, okD (W := W_mixed) (k := 0) F sc_mixed (fun cdv A outer s H E hr => jss_cons (js_set 3 sc_mixed.nd rfl (Or.inl rfl) (je_int)) (jss_cons (js_for passD rfl (ji_reversed (by rfl) T.n_reversed (ja_cons (je_var 0) (ja_nil))) (jg_name (js := [4]) 4 (by decide) sc_mixed.nd rfl (Or.inl rfl)) (jss_one (js_set 3 sc_mixed.nd rfl (Or.inl rfl) (je_op op_mod opl_mod (je_op op_addAll opl_add (je_op op_mulC opl_mul (je_var 3) (je_var 1)) (je_var 4)) (je_var 2))))) (jss_one (js_ret (je_op op_mod opl_mod (je_var 3) (je_var 2)))))) rd_mixed⟩
theorem ok_I_Join {P : Program} {w : World} {K : PySem.W.Frag} {mg : Str → Option Value} {base : Heap} (T : Txt K mg) : OkI P w K mg base "Join" 1 ["self", "p", "points", "claims"] C_Join_init := by
  obtain ⟨f, fd, F, hm, M, b⟩ := T.mi_Join
  exact ⟨f, fd, hm, M, b, okD (W := (W_Join_init flT)) (k := 0) F sc_Join_init (fun cdv A outer s H E hr => jss_cons (js_fld (f_p_fl T) (je_var 0) (je_var 1)) (jss_cons (js_fld (f_points_fl T) (je_var 0) (je_lc (own := [("point", 4)]) rfl sc_Join_init.nd (ji_list (je_var 2)) (blkOk_by (N := ["self", "p", "points", "claims", "point"]) (sc := defScope s_Join_init) (by decide +kernel)) (fun _ _ _ _ _ => jg_name (js := [4]) 4 (by decide) sc_Join_init.nd rfl (Or.inl rfl)) (fun _ _ _ _ _ => jts_nil) (fun _ _ _ _ _ => je_callTy call_list_of cbl_list (by rfl) T.n_list bt_list (ja_cons (je_var 4) (ja_nil))))) (jss_cons (js_fld (f_claims_fl T) (je_var 0) (je_callTy call_list_of cbl_list (by rfl) T.n_list bt_list (ja_cons (je_var 3) (ja_nil)))) (jss_cons (js_fld (f_mix_fl T) (je_var 0) (je_non)) (jss_cons (js_fld (f_sums_fl T) (je_var 0) (je_non)) (jss_cons (js_fld (f_next_point_fl T) (je_var 0) (je_non)) (jss_one (js_fld (f_next_claim_fl T) (je_var 0) (je_non))))))))) (rd_Join_init fl_Join)⟩
theorem ok_M_Join_wants {P : Program} {w : World} {K : PySem.W.Frag} {mg : Str → Option Value} {base : Heap} (T : Txt K mg) (G_M_SumAsker_is_done : OkM P w K base mg "SumAsker" "is_done" 1 ["self"] C_SumAsker_is_done) : OkM P w K base mg "Join" "wants" 2 ["self"] C_Join_wants := by
  obtain ⟨f, fd, F, hc, hm, b⟩ := T.mm_Join_wants
  exact ⟨f, fd, hc, hm, b, okD (W := (W_Join_wants flT)) (k := 1) F sc_Join_wants (fun cdv A outer s H E hr => jss_cons (js_if (PW.pt (jw_or (jt_cmp op_isN opl_isN (je_fld (f_mix_fl T) (je_var 0)) (je_non) (nomark _)) (jw_or1 (jt_cmp op_notN opl_notN (je_fld (f_sent_fl T) (je_fld (f_sums_fl T) (je_var 0))) (je_non) (nomark _))))) (jss_one (js_ret (je_str))) (jss_nil)) (jss_cons (js_if (jt_not (jt_val (je_meth0 (mn := "is_done") (lv := 1) (tab := [("SumAsker", C_SumAsker_is_done)]) (okMs_cons G_M_SumAsker_is_done rfl (by decide) okMs_nil) takesD (hr.mono (by decide)) (je_fld (f_sums_fl T) (je_var 0))))) (jss_one (js_ret (je_str))) (jss_nil)) (jss_one (js_ret (je_ifExp (jt_cmp op_isN opl_isN (je_fld (f_next_claim_fl T) (je_var 0)) (je_non) (nomark _)) (je_str) (je_str)))))) (rd_Join_wants fl_Join)⟩
theorem ok_M_Join_throw {P : Program} {w : World} {K : PySem.W.Frag} {mg : Str → Option Value} {base : Heap} (T : Txt K mg) (G_TalkError : ErrOk P w K mg base "TalkError" ["step"]) (G_I_SumAsker : OkI P w K mg base "SumAsker" 1 ["self", "p", "claim", "degrees"] C_SumAsker_init) (G_M_SumAsker_throw : OkM P w K base mg "SumAsker" "throw" 6 ["self", "number"] C_SumAsker_throw) (G_M_Join_wants : OkM P w K base mg "Join" "wants" 2 ["self"] C_Join_wants) (G_is_number : Ok P w K mg base "is_number" 1 ["number", "p"] C_is_number) (G_mixed : Ok P w K mg base "mixed" 1 ["numbers", "mix", "p"] C_mixed) : OkM P w K base mg "Join" "throw" 7 ["self", "number"] C_Join_throw := by
  obtain ⟨f, fd, F, hc, hm, b⟩ := T.mm_Join_throw
  exact ⟨f, fd, hc, hm, b, okD (W := (W_Join_throw flT)) (k := 6) F sc_Join_throw (fun cdv A outer s H E hr => jss_cons (js_if (PW.pt (jw_or (jt_cmp (op_neD hr.units) opl_ne (je_meth0 (mn := "wants") (lv := 2) (tab := [("Join", C_Join_wants)]) (okMs_cons G_M_Join_wants rfl (by decide) okMs_nil) takesD (hr.mono (by decide)) (je_var 0)) (je_str) (nomark _)) (jw_or1 (jt_not (jt_val (je_callO G_is_number takesD (hr.mono (by decide)) (by rfl) (ja_cons (je_var 1) (ja_cons (je_fld (f_p_fl T) (je_var 0)) (ja_nil))) 2)))))) (jss_one (js_raise (c := "TalkError") (fs := ["step"]) rfl takesD G_TalkError (by rfl) (hr.mono (by decide)) (ja_cons (je_str) (ja_nil)))) (jss_nil)) (jss_one (js_if (jt_cmp op_isN opl_isN (je_fld (f_mix_fl T) (je_var 0)) (je_non) (nomark _)) (jss_cons (js_fld (f_mix_fl T) (je_var 0) (je_var 1)) (jss_one (js_fld (f_sums_fl T) (je_var 0) (je_make G_I_SumAsker takesD (hr.mono (by decide)) (by rfl) (ja_cons (je_fld (f_p_fl T) (je_var 0)) (ja_cons (je_callO G_mixed takesD (hr.mono (by decide)) (by rfl) (ja_cons (je_fld (f_claims_fl T) (je_var 0)) (ja_cons (je_var 1) (ja_cons (je_fld (f_p_fl T) (je_var 0)) (ja_nil)))) 3) (ja_cons (je_op op_rep opl_rep (je_lst (ja_cons (je_int) (ja_nil))) (je_callB call_len cbl_len (by rfl) T.n_len bt_len (ja_cons (je_ix (je_fld (f_points_fl T) (je_var 0)) (je_int)) (ja_nil)))) (ja_nil)))) 3)))) (jss_one (js_expr (je_meth (mn := "throw") (lv := 6) (n := 1) (tab := [("SumAsker", C_SumAsker_throw)]) (okMs_cons G_M_SumAsker_throw rfl (by decide) okMs_nil) takesD (hr.mono (by decide)) (je_fld (f_sums_fl T) (je_var 0)) (ja_cons (je_var 1) (ja_nil)))))))) (rd_Join_throw fl_Join)⟩
theorem ok_M_Join_answer {P : Program} {w : World} {K : PySem.W.Frag} {mg : Str → Option Value} {base : Heap} (T : Txt K mg) (G_TalkError : ErrOk P w K mg base "TalkError" ["step"]) (G_M_SumAsker_accept : OkM P w K base mg "SumAsker" "accept" 3 ["self", "values"] C_SumAsker_accept) (G_M_Join_wants : OkM P w K base mg "Join" "wants" 2 ["self"] C_Join_wants) : OkM P w K base mg "Join" "answer" 4 ["self", "values"] C_Join_answer := by
  obtain ⟨f, fd, F, hc, hm, b⟩ := T.mm_Join_answer
  exact ⟨f, fd, hc, hm, b, okD (W := (W_Join_answer flT)) (k := 3) F sc_Join_answer (fun cdv A outer s H E hr => jss_cons (js_if (jt_cmp (op_neD hr.units) opl_ne (je_meth0 (mn := "wants") (lv := 2) (tab := [("Join", C_Join_wants)]) (okMs_cons G_M_Join_wants rfl (by decide) okMs_nil) takesD (hr.mono (by decide)) (je_var 0)) (je_str) (nomark _)) (jss_one (js_raise (c := "TalkError") (fs := ["step"]) rfl takesD G_TalkError (by rfl) (hr.mono (by decide)) (ja_cons (je_str) (ja_nil)))) (jss_nil)) (jss_one (js_ret (je_meth (mn := "accept") (lv := 3) (n := 1) (tab := [("SumAsker", C_SumAsker_accept)]) (okMs_cons G_M_SumAsker_accept rfl (by decide) okMs_nil) takesD (hr.mono (by decide)) (je_fld (f_sums_fl T) (je_var 0)) (ja_cons (je_var 1) (ja_nil)))))) (rd_Join_answer fl_Join)⟩
theorem ok_M_Join_answer_value {P : Program} {w : World} {K : PySem.W.Frag} {mg : Str → Option Value} {base : Heap} (T : Txt K mg) (G_TalkError : ErrOk P w K mg base "TalkError" ["step"]) (G_mixed : Ok P w K mg base "mixed" 1 ["numbers", "mix", "p"] C_mixed) (G_M_Join_wants : OkM P w K base mg "Join" "wants" 2 ["self"] C_Join_wants) (G_nearness : Ok P w K mg base "nearness" 1 ["point", "other", "p"] C_nearness__h) (G_is_number : Ok P w K mg base "is_number" 1 ["number", "p"] C_is_number) : OkM P w K base mg "Join" "answer_value" 3 ["self", "number"] C_Join_answer_value := by
  obtain ⟨f, fd, F, hc, hm, b⟩ := T.mm_Join_answer_value
  exact ⟨f, fd, hc, hm, b, okD (W := (W_Join_answer_value flT)) (k := 2) F sc_Join_answer_value (fun cdv A outer s H E hr => jss_cons (js_if (jt_cmp (op_neD hr.units) opl_ne (je_meth0 (mn := "wants") (lv := 2) (tab := [("Join", C_Join_wants)]) (okMs_cons G_M_Join_wants rfl (by decide) okMs_nil) takesD (hr.mono (by decide)) (je_var 0)) (je_str) (nomark _)) (jss_one (js_raise (c := "TalkError") (fs := ["step"]) rfl takesD G_TalkError (by rfl) (hr.mono (by decide)) (ja_cons (je_str) (ja_nil)))) (jss_nil)) (jss_cons (js_set 2 sc_Join_answer_value.nd rfl (Or.inr rfl) (je_fld (f_throws_fl T) (je_fld (f_sums_fl T) (je_var 0)))) (jss_cons (js_set 3 sc_Join_answer_value.nd rfl (Or.inl rfl) (je_callO G_mixed takesD (hr.mono (by decide)) (by rfl) (ja_cons (je_lc (own := [("other", 4)]) rfl sc_Join_answer_value.nd (ji_list (je_fld (f_points_fl T) (je_var 0))) (blkOk_by (N := ["self", "number", "point", "near", "other"]) (sc := defScope s_Join_answer_value) (by decide +kernel)) (fun _ _ _ _ _ => jg_name (js := [4]) 4 (by decide) sc_Join_answer_value.nd rfl (Or.inl rfl)) (fun _ _ _ _ _ => jts_nil) (fun _ _ _ _ _ => je_callO G_nearness takes0 (hr.mono (by decide)) (by rfl) (ja_cons (je_var 4) (ja_cons (je_var 2) (ja_cons (je_fld (f_p_fl T) (je_var 0)) (ja_nil)))) 3)) (ja_cons (je_fld (f_mix_fl T) (je_var 0)) (ja_cons (je_fld (f_p_fl T) (je_var 0)) (ja_nil)))) 3)) (jss_cons (js_if (PW.pt (jw_or (jt_not (jt_val (je_callO G_is_number takesD (hr.mono (by decide)) (by rfl) (ja_cons (je_var 1) (ja_cons (je_fld (f_p_fl T) (je_var 0)) (ja_nil))) 2))) (jw_or1 (jt_cmp (op_neD hr.units) opl_ne (je_op op_mod opl_mod (je_op op_mulC opl_mul (je_var 3) (je_var 1)) (je_fld (f_p_fl T) (je_var 0))) (je_fld (f_claim_fl T) (je_fld (f_sums_fl T) (je_var 0))) (nomark _))))) (jss_one (js_ret (je_bl))) (jss_nil)) (jss_cons (js_fld (f_next_point_fl T) (je_var 0) (je_callTy call_list_of cbl_list (by rfl) T.n_list bt_list (ja_cons (je_var 2) (ja_nil)))) (jss_cons (js_fld (f_next_claim_fl T) (je_var 0) (je_var 1)) (jss_one (js_ret (je_bl))))))))) (rd_Join_answer_value fl_Join)⟩
theorem ok_I_JoinAnswerer {P : Program} {w : World} {K : PySem.W.Frag} {mg : Str → Option Value} {base : Heap} (T : Txt K mg) : OkI P w K mg base "JoinAnswerer" 1 ["self", "p", "table", "points"] C_JoinAnswerer_init := by
  obtain ⟨f, fd, F, hm, M, b⟩ := T.mi_JoinAnswerer
  exact ⟨f, fd, hm, M, b, okD (W := (W_JoinAnswerer_init flT)) (k := 0) F sc_JoinAnswerer_init (fun cdv A outer s H E hr => jss_cons (js_fld (f_p_fl T) (je_var 0) (je_var 1)) (jss_cons (js_fld (f_table_fl T) (je_var 0) (je_callTy call_list_of cbl_list (by rfl) T.n_list bt_list (ja_cons (je_var 2) (ja_nil)))) (jss_cons (js_fld (f_points_fl T) (je_var 0) (je_lc (own := [("point", 4)]) rfl sc_JoinAnswerer_init.nd (ji_list (je_var 3)) (blkOk_by (N := ["self", "p", "table", "points", "point"]) (sc := defScope s_JoinAnswerer_init) (by decide +kernel)) (fun _ _ _ _ _ => jg_name (js := [4]) 4 (by decide) sc_JoinAnswerer_init.nd rfl (Or.inl rfl)) (fun _ _ _ _ _ => jts_nil) (fun _ _ _ _ _ => je_callTy call_list_of cbl_list (by rfl) T.n_list bt_list (ja_cons (je_var 4) (ja_nil))))) (jss_one (js_fld (f_near_fl T) (je_var 0) (je_non)))))) (rd_JoinAnswerer_init fl_JoinAnswerer)⟩
theorem ok_M_JoinAnswerer_throw {P : Program} {w : World} {K : PySem.W.Frag} {mg : Str → Option Value} {base : Heap} (T : Txt K mg) (G_fold : Ok P w K mg base "fold" 1 ["table", "number", "p"] C_fold) (G_point_table : Ok P w K mg base "point_table" 1 ["point", "p"] C_point_table) (G_mixed : Ok P w K mg base "mixed" 1 ["numbers", "mix", "p"] C_mixed) : OkM P w K base mg "JoinAnswerer" "throw" 2 ["self", "number"] C_JoinAnswerer_throw := by
  obtain ⟨f, fd, F, hc, hm, b⟩ := T.mm_JoinAnswerer_throw
  exact ⟨f, fd, hc, hm, b, okD (W := (W_JoinAnswerer_throw flT)) (k := 1) F sc_JoinAnswerer_throw (fun cdv A outer s H E hr => jss_cons (js_set 2 sc_JoinAnswerer_throw.nd rfl (Or.inr rfl) (je_fld (f_p_fl T) (je_var 0))) (jss_one (js_if (jt_cmp op_isN opl_isN (je_fld (f_near_fl T) (je_var 0)) (je_non) (nomark _)) (jss_cons (js_set 3 sc_JoinAnswerer_throw.nd rfl (Or.inr rfl) (je_lc (own := [("point", 4)]) rfl sc_JoinAnswerer_throw.nd (ji_list (je_fld (f_points_fl T) (je_var 0))) (blkOk_by (N := ["self", "number", "p", "tables", "point", "k", "table"]) (sc := defScope s_JoinAnswerer_throw) (by decide +kernel)) (fun _ _ _ _ _ => jg_name (js := [4]) 4 (by decide) sc_JoinAnswerer_throw.nd rfl (Or.inl rfl)) (fun _ _ _ _ _ => jts_nil) (fun _ _ _ _ _ => je_callO G_point_table takes0 (hr.mono (by decide)) (by rfl) (ja_cons (je_var 4) (ja_cons (je_var 2) (ja_nil))) 2))) (jss_one (js_fld (f_near_fl T) (je_var 0) (je_lc (own := [("k", 5)]) rfl sc_JoinAnswerer_throw.nd (ji_range1 (by rfl) T.n_range (ja_cons (je_callB call_len cbl_len (by rfl) T.n_len bt_len (ja_cons (je_fld (f_table_fl T) (je_var 0)) (ja_nil))) (ja_nil))) (blkOk_by (N := ["self", "number", "p", "tables", "point", "k", "table"]) (sc := defScope s_JoinAnswerer_throw) (by decide +kernel)) (fun _ _ _ _ _ => jg_name (js := [5]) 5 (by decide) sc_JoinAnswerer_throw.nd rfl (Or.inr rfl)) (fun _ _ _ _ _ => jts_nil) (fun _ _ _ _ _ => je_callO G_mixed takes0 (hr.mono (by decide)) (by rfl) (ja_cons (je_lc (own := [("table", 6)]) rfl sc_JoinAnswerer_throw.nd (ji_list (je_var 3)) (blkOk_in (N := ["self", "number", "p", "tables", "point", "k", "table"]) (sc := defScope s_JoinAnswerer_throw) rfl rfl (blkOk_by (by decide +kernel))) (fun _ _ _ _ _ => jg_name (js := [6]) 6 (by decide) sc_JoinAnswerer_throw.nd rfl (Or.inl rfl)) (fun _ _ _ _ _ => jts_nil) (fun _ _ _ _ _ => je_ix (je_var 6) (je_var 5))) (ja_cons (je_var 1) (ja_cons (je_var 2) (ja_nil)))) 3))))) (jss_cons (js_fld (f_near_fl T) (je_var 0) (je_callO G_fold takesD (hr.mono (by decide)) (by rfl) (ja_cons (je_fld (f_near_fl T) (je_var 0)) (ja_cons (je_var 1) (ja_cons (je_var 2) (ja_nil)))) 3)) (jss_one (js_fld (f_table_fl T) (je_var 0) (je_callO G_fold takesD (hr.mono (by decide)) (by rfl) (ja_cons (je_fld (f_table_fl T) (je_var 0)) (ja_cons (je_var 1) (ja_cons (je_var 2) (ja_nil)))) 3))))))) (rd_JoinAnswerer_throw fl_JoinAnswerer)⟩
theorem ok_M_JoinAnswerer_poly {P : Program} {w : World} {K : PySem.W.Frag} {mg : Str → Option Value} {base : Heap} (T : Txt K mg) (G_fold : Ok P w K mg base "fold" 1 ["table", "number", "p"] C_fold) : OkM P w K base mg "JoinAnswerer" "poly" 2 ["self"] C_JoinAnswerer_poly := by
  obtain ⟨f, fd, F, hc, hm, b⟩ := T.mm_JoinAnswerer_poly
  exact ⟨f, fd, hc, hm, b, okDQ (W := (W_JoinAnswerer_poly flT)) (k := 1) F sc_JoinAnswerer_poly (fun cdv A outer s H E hr => jss_cons (js_set 1 sc_JoinAnswerer_poly.nd rfl (Or.inl rfl) (je_fld (f_p_fl T) (je_var 0))) (jss_cons (js_set 2 sc_JoinAnswerer_poly.nd rfl (Or.inl rfl) (je_lstM (ja_nil))) (jss_cons (js_for passD rfl (ji_range1 (by rfl) T.n_range (ja_cons (je_int) (ja_nil))) (jg_name (js := [3]) 3 (by decide) sc_JoinAnswerer_poly.nd rfl (Or.inl rfl)) (jss_cons (js_set 4 sc_JoinAnswerer_poly.nd rfl (Or.inr rfl) (je_callO G_fold takesD (hr.mono (by decide)) (by rfl) (ja_cons (je_fld (f_near_fl T) (je_var 0)) (ja_cons (je_var 3) (ja_cons (je_var 1) (ja_nil)))) 3)) (jss_cons (js_set 5 sc_JoinAnswerer_poly.nd rfl (Or.inr rfl) (je_callO G_fold takesD (hr.mono (by decide)) (by rfl) (ja_cons (je_fld (f_table_fl T) (je_var 0)) (ja_cons (je_var 3) (ja_cons (je_var 1) (ja_nil)))) 3)) (jss_one (js_expr (je_mL PySem.F.slot_list_append PySem.F.type_list_append mt_append mtl_app (je_var 2) (ja_cons (je_op op_mod opl_mod (je_callB (cr_sum rfl) cbl_sum (by rfl) T.n_sum bt_sum (ja_cons (je_lc (own := [("k", 6)]) rfl sc_JoinAnswerer_poly.nd (ji_range1 (by rfl) T.n_range (ja_cons (je_callB call_len cbl_len (by rfl) T.n_len bt_len (ja_cons (je_var 4) (ja_nil))) (ja_nil))) (blkOk_by (N := ["self", "p", "found", "t", "near", "table", "k"]) (sc := defScope s_JoinAnswerer_poly) (by decide +kernel)) (fun _ _ _ _ _ => jg_name (js := [6]) 6 (by decide) sc_JoinAnswerer_poly.nd rfl (Or.inl rfl)) (fun _ _ _ _ _ => jts_nil) (fun _ _ _ _ _ => je_op op_mulC opl_mul (je_ix (je_var 4) (je_var 6)) (je_ix (je_var 5) (je_var 6)))) (ja_nil))) (je_var 1)) (ja_nil)))))))) (jss_one (js_ret (je_var 2)))))) (rd_JoinAnswerer_poly fl_JoinAnswerer)⟩
theorem ok_M_JoinAnswerer_value {P : Program} {w : World} {K : PySem.W.Frag} {mg : Str → Option Value} {base : Heap} (T : Txt K mg) : OkM P w K base mg "JoinAnswerer" "value" 1 ["self"] C_JoinAnswerer_value := by
  obtain ⟨f, fd, F, hc, hm, b⟩ := T.mm_JoinAnswerer_value
  exact ⟨f, fd, hc, hm, b, okD (W := (W_JoinAnswerer_value flT)) (k := 0) F sc_JoinAnswerer_value (fun cdv A outer s H E hr => jss_one (js_ret (je_ix (je_fld (f_table_fl T) (je_var 0)) (je_int)))) (rd_JoinAnswerer_value fl_JoinAnswerer)⟩
theorem ok_join_answers {P : Program} {w : World} {K : PySem.W.Frag} {mg : Str → Option Value} {base : Heap} (T : Txt K mg) (G_M_SumAsker_throw : OkM P w K base mg "SumAsker" "throw" 6 ["self", "number"] C_SumAsker_throw) (G_M_Join_throw : OkM P w K base mg "Join" "throw" 7 ["self", "number"] C_Join_throw) (G_M_JoinAnswerer_throw : OkM P w K base mg "JoinAnswerer" "throw" 2 ["self", "number"] C_JoinAnswerer_throw) (G_M_JoinAnswerer_value : OkM P w K base mg "JoinAnswerer" "value" 1 ["self"] C_JoinAnswerer_value) (G_M_JoinAnswerer_poly : OkM P w K base mg "JoinAnswerer" "poly" 2 ["self"] C_JoinAnswerer_poly) : Ok P w K mg base "join_answers" 8 ["answerer", "throws"] C_join_answers := by
  obtain ⟨f, fd, F, hm, b⟩ := T.d_join_answers
  exact ⟨f, fd, hm, F.kp, b, okDQ (W := W_join_answers) (k := 7) F sc_join_answers (fun cdv A outer s H E hr => jss_cons (js_expr (je_meth (mn := "throw") (lv := 7) (n := 1) (tab := [("SumAsker", C_SumAsker_throw), ("Join", C_Join_throw), ("JoinAnswerer", C_JoinAnswerer_throw)]) (okMs_cons G_M_SumAsker_throw rfl (by decide) (okMs_cons G_M_Join_throw rfl (by decide) (okMs_cons G_M_JoinAnswerer_throw rfl (by decide) okMs_nil))) takesD (hr.mono (by decide)) (je_var 0) (ja_cons (je_ix (je_var 1) (je_int)) (ja_nil)))) (jss_cons (js_set 2 sc_join_answers.nd rfl (Or.inl rfl) (je_lstM (ja_nil))) (jss_cons (js_for passD rfl (ji_list (je_sl (je_var 1) (jo_some (je_int)) (jo_none))) (jg_name (js := [3]) 3 (by decide) sc_join_answers.nd rfl (Or.inl rfl)) (jss_cons (js_expr (je_mL PySem.F.slot_list_append PySem.F.type_list_append mt_append mtl_app (je_var 2) (ja_cons (je_meth0 (mn := "poly") (lv := 2) (tab := [("JoinAnswerer", C_JoinAnswerer_poly)]) (okMs_cons G_M_JoinAnswerer_poly rfl (by decide) okMs_nil) takesD (hr.mono (by decide)) (je_var 0)) (ja_nil)))) (jss_one (js_expr (je_meth (mn := "throw") (lv := 7) (n := 1) (tab := [("SumAsker", C_SumAsker_throw), ("Join", C_Join_throw), ("JoinAnswerer", C_JoinAnswerer_throw)]) (okMs_cons G_M_SumAsker_throw rfl (by decide) (okMs_cons G_M_Join_throw rfl (by decide) (okMs_cons G_M_JoinAnswerer_throw rfl (by decide) okMs_nil))) takesD (hr.mono (by decide)) (je_var 0) (ja_cons (je_var 3) (ja_nil))))))) (jss_one (js_frz 2 (js_ret (je_tup (ja_cons (je_var 2) (ja_cons (je_meth0 (mn := "value") (lv := 1) (tab := [("JoinAnswerer", C_JoinAnswerer_value)]) (okMs_cons G_M_JoinAnswerer_value rfl (by decide) okMs_nil) takesD (hr.mono (by decide)) (je_var 0)) (ja_nil)))))))))) rd_join_answers⟩
theorem ok__law_stream {P : Program} {w : World} {K : PySem.W.Frag} {mg : Str → Option Value} {base : Heap} (T : Txt K mg) : Ok P w K mg base "_law_stream" 1 ["_law_script"] C_stream := by
  obtain ⟨f, fd, F, hm, b⟩ := T.d__law_stream
  exact stream_close ⟨f, fd, hm, F.kp, b, okD (C := C_streamO) (W := W_stream) (k := 0) F sc__law_stream (fun cdv A outer s H E hr => jss_cons (js_set 1 sc__law_stream.nd rfl (Or.inl rfl) (je_lstM (ja_cons (je_int) (ja_nil)))) (jss_cons (js_for passD rfl (ji_list (je_sl (je_var 0) (jo_none) (jo_some (je_int)))) (jg_name (js := [2]) 2 (by decide) sc__law_stream.nd rfl (Or.inl rfl)) (jss_cons (js_set 5 sc__law_stream.nd rfl (Or.inl rfl) (je_callB call_abs cbl_abs (by rfl) T.n_abs bt_abs (ja_cons (je_callTy call_int1 cbl_int (by rfl) T.n_int bt_int (ja_cons (je_var 2) (ja_nil))) (ja_nil)))) (jss_one (js_for passD rfl (ji_range1 (by rfl) T.n_range (ja_cons (je_int) (ja_nil))) (jg_name (js := [4]) 4 (by decide) sc__law_stream.nd rfl (Or.inl rfl)) (jss_cons (js_expr (je_mL PySem.F.slot_list_append PySem.F.type_list_append mt_append mtl_app (je_var 1) (ja_cons (je_op op_mod opl_mod (je_var 5) (je_int)) (ja_nil)))) (jss_cons (js_set 5 sc__law_stream.nd rfl (Or.inl rfl) (je_op op_fdivW opl_div (je_var 5) (je_int))) (jss_one (js_if (jt_cmp (op_eqD hr.units) opl_eq (je_var 5) (je_int) (nomark _)) (jss_one (js_break)) (jss_nil))))))))) (jss_cons (js_set 3 sc__law_stream.nd rfl (Or.inl rfl) (je_int)) (jss_cons (js_for passD rfl (ji_list (je_sl (je_var 0) (jo_none) (jo_some (je_int)))) (jg_name (js := [2]) 2 (by decide) sc__law_stream.nd rfl (Or.inl rfl)) (jss_one (js_set 3 sc__law_stream.nd rfl (Or.inl rfl) (je_op op_mod opl_mod (je_callTy call_int1 cbl_int (by rfl) T.n_int bt_int (ja_cons (je_op op_addAll opl_add (je_op op_addAll opl_add (je_op op_mulC opl_mul (je_var 3) (je_int)) (je_var 2)) (je_int)) (ja_nil))) (je_int))))) (jss_cons (js_for passD rfl (ji_range1 (by rfl) T.n_range (ja_cons (je_int) (ja_nil))) (jg_name (js := [4]) 4 (by decide) sc__law_stream.nd rfl (Or.inl rfl)) (jss_cons (js_set 3 sc__law_stream.nd rfl (Or.inl rfl) (je_op op_mod opl_mod (je_callTy call_int1 cbl_int (by rfl) T.n_int bt_int (ja_cons (je_op op_addAll opl_add (je_op op_addAll opl_add (je_op op_mulC opl_mul (je_var 3) (je_int)) (je_op op_mulC opl_mul (je_var 4) (je_int))) (je_int)) (ja_nil))) (je_int))) (jss_one (js_expr (je_mL PySem.F.slot_list_append PySem.F.type_list_append mt_append mtl_app (je_var 1) (ja_cons (je_op op_mod opl_mod (je_op op_fdivW opl_div (je_var 3) (je_int)) (je_int)) (ja_nil))))))) (jss_one (js_ret (je_var 1)))))))) rd_stream⟩
theorem ok__law_take {P : Program} {w : World} {K : PySem.W.Frag} {mg : Str → Option Value} {base : Heap} (T : Txt K mg) : Ok P w K mg base "_law_take" 1 ["_law_row", "_law_many"] C_take := by
  obtain ⟨f, fd, F, hm, b⟩ := T.d__law_take
  exact take_close ⟨f, fd, hm, F.kp, b, okD (C := C_takeO) (W := W_take) (k := 0) F sc__law_take (fun cdv A outer s H E hr => jss_cons (js_if (jt_cmp op_lt opl_lt (je_ix (je_var 0) (je_int)) (je_callB call_len cbl_len (by rfl) T.n_len bt_len (ja_cons (je_var 0) (ja_nil))) (nomark _)) (jss_cons (js_setIx (je_op op_addAll opl_add (je_ix (je_var 0) (je_int)) (je_int)) (je_var 0) (je_int) (pg_sub (je_var 0) (je_int) set_list)) (jss_one (js_ret (je_op op_mod opl_mod (je_callTy call_int1 cbl_int (by rfl) T.n_int bt_int (ja_cons (je_ix (je_var 0) (je_op op_sub opl_sub (je_ix (je_var 0) (je_int)) (je_int))) (ja_nil))) (je_var 1))))) (jss_nil)) (jss_one (js_ret (je_int)))) rd_take⟩
theorem ok__law_number {P : Program} {w : World} {K : PySem.W.Frag} {mg : Str → Option Value} {base : Heap} (T : Txt K mg) (G__law_take : Ok P w K mg base "_law_take" 1 ["_law_row", "_law_many"] C_take) : Ok P w K mg base "_law_number" 2 ["_law_row", "_law_p"] C__law_number__61 := by
  obtain ⟨f, fd, F, hm, b⟩ := T.d__law_number
  exact ⟨f, fd, hm, F.kp, b, okD (W := W__law_number__61) (k := 1) F sc__law_number (fun cdv A outer s H E hr => jss_one (js_ret (je_op op_mod opl_mod (je_callTy call_int1 cbl_int (by rfl) T.n_int bt_int (ja_cons (je_op op_addAll opl_add (je_op op_mulC opl_mul (je_callO G__law_take takesD (hr.mono (by decide)) (by rfl) (ja_cons (je_var 0) (ja_cons (je_int) (ja_nil))) 2) (je_int)) (je_callO G__law_take takesD (hr.mono (by decide)) (by rfl) (ja_cons (je_var 0) (ja_cons (je_int) (ja_nil))) 2)) (ja_nil))) (je_var 1)))) rd__law_number__61⟩
theorem ok__law_near {P : Program} {w : World} {K : PySem.W.Frag} {mg : Str → Option Value} {base : Heap} (T : Txt K mg) : Ok P w K mg base "_law_near" 1 ["_law_one", "_law_two", "_law_p"] C__law_near__2 := by
  obtain ⟨f, fd, F, hm, b⟩ := T.d__law_near
  exact ⟨f, fd, hm, F.kp, b, okD (W := W__law_near__2) (k := 0) F sc__law_near (fun cdv A outer s H E hr => jss_cons (js_set 3 sc__law_near.nd rfl (Or.inl rfl) (je_int)) (jss_cons (js_for passD rfl (ji_range1 (by rfl) T.n_range (ja_cons (je_callB call_len cbl_len (by rfl) T.n_len bt_len (ja_cons (je_var 0) (ja_nil))) (ja_nil))) (jg_name (js := [4]) 4 (by decide) sc__law_near.nd rfl (Or.inl rfl)) (jss_one (js_set 3 sc__law_near.nd rfl (Or.inl rfl) (je_op op_mod opl_mod (je_callTy call_int1 cbl_int (by rfl) T.n_int bt_int (ja_cons (je_op op_mulC opl_mul (je_var 3) (je_op op_addAll opl_add (je_op op_mulC opl_mul (je_ix (je_var 0) (je_var 4)) (je_ix (je_var 1) (je_var 4))) (je_op op_mulC opl_mul (je_op op_sub opl_sub (je_int) (je_ix (je_var 0) (je_var 4))) (je_op op_sub opl_sub (je_int) (je_ix (je_var 1) (je_var 4)))))) (ja_nil))) (je_var 2))))) (jss_one (js_ret (je_var 3))))) rd__law_near__2⟩
theorem ok__law_corner {P : Program} {w : World} {K : PySem.W.Frag} {mg : Str → Option Value} {base : Heap} (T : Txt K mg) : Ok P w K mg base "_law_corner" 1 ["_law_k", "_law_dims"] C__law_corner := by
  obtain ⟨f, fd, F, hm, b⟩ := T.d__law_corner
  exact ⟨f, fd, hm, F.kp, b, okD (W := W__law_corner) (k := 0) F sc__law_corner (fun cdv A outer s H E hr => jss_one (js_ret (je_lc (own := [("_law_j", 2)]) rfl sc__law_corner.nd (ji_range1 (by rfl) T.n_range (ja_cons (je_var 1) (ja_nil))) (blkOk_by (N := ["_law_k", "_law_dims", "_law_j"]) (sc := defScope s__law_corner) (by decide +kernel)) (fun _ _ _ _ _ => jg_name (js := [2]) 2 (by decide) sc__law_corner.nd rfl (Or.inl rfl)) (fun _ _ _ _ _ => jts_nil) (fun _ _ _ _ _ => je_op op_mod opl_mod (je_callTy call_int1 cbl_int (by rfl) T.n_int bt_int (ja_cons (je_op op_shr opl_shr (je_var 0) (je_var 2)) (ja_nil))) (je_int))))) rd__law_corner⟩
theorem ok__law_value {P : Program} {w : World} {K : PySem.W.Frag} {mg : Str → Option Value} {base : Heap} (T : Txt K mg) (G__law_near : Ok P w K mg base "_law_near" 1 ["_law_one", "_law_two", "_law_p"] C__law_near__2) (G__law_corner : Ok P w K mg base "_law_corner" 1 ["_law_k", "_law_dims"] C__law_corner) : Ok P w K mg base "_law_value" 2 ["_law_table", "_law_point", "_law_p"] C__law_value__2 := by
  obtain ⟨f, fd, F, hm, b⟩ := T.d__law_value
  exact ⟨f, fd, hm, F.kp, b, okD (W := W__law_value__2) (k := 1) F sc__law_value (fun cdv A outer s H E hr => jss_cons (js_set 3 sc__law_value.nd rfl (Or.inl rfl) (je_int)) (jss_cons (js_for passD rfl (ji_range1 (by rfl) T.n_range (ja_cons (je_callB call_len cbl_len (by rfl) T.n_len bt_len (ja_cons (je_var 0) (ja_nil))) (ja_nil))) (jg_name (js := [4]) 4 (by decide) sc__law_value.nd rfl (Or.inl rfl)) (jss_one (js_set 3 sc__law_value.nd rfl (Or.inl rfl) (je_op op_addAll opl_add (je_var 3) (je_op op_mulC opl_mul (je_ix (je_var 0) (je_var 4)) (je_callO G__law_near takesD (hr.mono (by decide)) (by rfl) (ja_cons (je_callO G__law_corner takesD (hr.mono (by decide)) (by rfl) (ja_cons (je_var 4) (ja_cons (je_callB call_len cbl_len (by rfl) T.n_len bt_len (ja_cons (je_var 1) (ja_nil))) (ja_nil))) 2) (ja_cons (je_var 1) (ja_cons (je_var 2) (ja_nil)))) 3)))))) (jss_one (js_ret (je_op op_mod opl_mod (je_callTy call_int1 cbl_int (by rfl) T.n_int bt_int (ja_cons (je_var 3) (ja_nil))) (je_var 2)))))) rd__law_value__2⟩
theorem ok__law_mixed {P : Program} {w : World} {K : PySem.W.Frag} {mg : Str → Option Value} {base : Heap} (T : Txt K mg) : Ok P w K mg base "_law_mixed" 1 ["_law_numbers", "_law_mix", "_law_p"] C__law_mixed := by
  obtain ⟨f, fd, F, hm, b⟩ := T.d__law_mixed
  exact ⟨f, fd, hm, F.kp, b, okD (W := W__law_mixed) (k := 0) F sc__law_mixed (fun cdv A outer s H E hr => jss_cons (js_set 3 sc__law_mixed.nd rfl (Or.inl rfl) (je_int)) (jss_cons (js_set 4 sc__law_mixed.nd rfl (Or.inl rfl) (je_int)) (jss_cons (js_for passD rfl (ji_list (je_var 0)) (jg_name (js := [5]) 5 (by decide) sc__law_mixed.nd rfl (Or.inl rfl)) (jss_cons (js_set 3 sc__law_mixed.nd rfl (Or.inl rfl) (je_op op_mod opl_mod (je_callTy call_int1 cbl_int (by rfl) T.n_int bt_int (ja_cons (je_op op_addAll opl_add (je_var 3) (je_op op_mulC opl_mul (je_var 5) (je_var 4))) (ja_nil))) (je_var 2))) (jss_one (js_set 4 sc__law_mixed.nd rfl (Or.inl rfl) (je_op op_mod opl_mod (je_callTy call_int1 cbl_int (by rfl) T.n_int bt_int (ja_cons (je_op op_mulC opl_mul (je_var 4) (je_var 1)) (ja_nil))) (je_var 2)))))) (jss_one (js_ret (je_var 3)))))) rd__law_mixed⟩
theorem ok__law_weight {P : Program} {w : World} {K : PySem.W.Frag} {mg : Str → Option Value} {base : Heap} (T : Txt K mg) (G__law_mixed : Ok P w K mg base "_law_mixed" 1 ["_law_numbers", "_law_mix", "_law_p"] C__law_mixed) (G__law_near : Ok P w K mg base "_law_near" 1 ["_law_one", "_law_two", "_law_p"] C__law_near__2) : Ok P w K mg base "_law_weight" 2 ["_law_points", "_law_mix", "_law_spot", "_law_p"] C__law_weight := by
  obtain ⟨f, fd, F, hm, b⟩ := T.d__law_weight
  exact ⟨f, fd, hm, F.kp, b, okD (W := W__law_weight) (k := 1) F sc__law_weight (fun cdv A outer s H E hr => jss_one (js_ret (je_callO G__law_mixed takesD (hr.mono (by decide)) (by rfl) (ja_cons (je_lc (own := [("_law_point", 4)]) rfl sc__law_weight.nd (ji_list (je_var 0)) (blkOk_by (N := ["_law_points", "_law_mix", "_law_spot", "_law_p", "_law_point"]) (sc := defScope s__law_weight) (by decide +kernel)) (fun _ _ _ _ _ => jg_name (js := [4]) 4 (by decide) sc__law_weight.nd rfl (Or.inl rfl)) (fun _ _ _ _ _ => jts_nil) (fun _ _ _ _ _ => je_callO G__law_near takes0 (hr.mono (by decide)) (by rfl) (ja_cons (je_var 4) (ja_cons (je_var 2) (ja_cons (je_var 3) (ja_nil)))) 3)) (ja_cons (je_var 1) (ja_cons (je_var 3) (ja_nil)))) 3))) rd__law_weight⟩
theorem ok__law_join_poly {P : Program} {w : World} {K : PySem.W.Frag} {mg : Str → Option Value} {base : Heap} (T : Txt K mg) (G__law_corner : Ok P w K mg base "_law_corner" 1 ["_law_k", "_law_dims"] C__law_corner) (G__law_value : Ok P w K mg base "_law_value" 2 ["_law_table", "_law_point", "_law_p"] C__law_value__2) (G__law_weight : Ok P w K mg base "_law_weight" 2 ["_law_points", "_law_mix", "_law_spot", "_law_p"] C__law_weight) : Ok P w K mg base "_law_join_poly" 3 ["_law_table", "_law_points", "_law_mix", "_law_before", "_law_p"] C__law_join_poly := by
  obtain ⟨f, fd, F, hm, b⟩ := T.d__law_join_poly
  exact ⟨f, fd, hm, F.kp, b, okDQ (W := W__law_join_poly) (k := 2) F sc__law_join_poly (fun cdv A outer s H E hr => jss_cons (js_set 5 sc__law_join_poly.nd rfl (Or.inl rfl) (je_op op_sub opl_sub (je_op op_sub opl_sub (je_callB call_len cbl_len (by rfl) T.n_len bt_len (ja_cons (je_ix (je_var 1) (je_int)) (ja_nil))) (je_callB call_len cbl_len (by rfl) T.n_len bt_len (ja_cons (je_var 3) (ja_nil)))) (je_int))) (jss_cons (js_set 6 sc__law_join_poly.nd rfl (Or.inl rfl) (je_lstM (ja_nil))) (jss_cons (js_for passD rfl (ji_range1 (by rfl) T.n_range (ja_cons (je_int) (ja_nil))) (jg_name (js := [7]) 7 (by decide) sc__law_join_poly.nd rfl (Or.inl rfl)) (jss_cons (js_set 8 sc__law_join_poly.nd rfl (Or.inl rfl) (je_int)) (jss_cons (js_for passD rfl (ji_range1 (by rfl) T.n_range (ja_cons (je_op op_shl opl_shl (je_int) (je_var 5)) (ja_nil))) (jg_name (js := [9]) 9 (by decide) sc__law_join_poly.nd rfl (Or.inl rfl)) (jss_cons (js_set 10 sc__law_join_poly.nd rfl (Or.inl rfl) (je_op op_addAll opl_add (je_op op_addAll opl_add (je_var 3) (je_lst (ja_cons (je_var 7) (ja_nil)))) (je_callO G__law_corner takesD (hr.mono (by decide)) (by rfl) (ja_cons (je_var 9) (ja_cons (je_var 5) (ja_nil))) 2))) (jss_one (js_set 8 sc__law_join_poly.nd rfl (Or.inl rfl) (je_op op_addAll opl_add (je_var 8) (je_op op_mulC opl_mul (je_callO G__law_value takesD (hr.mono (by decide)) (by rfl) (ja_cons (je_var 0) (ja_cons (je_var 10) (ja_cons (je_var 4) (ja_nil)))) 3) (je_callO G__law_weight takesD (hr.mono (by decide)) (by rfl) (ja_cons (je_var 1) (ja_cons (je_var 2) (ja_cons (je_var 10) (ja_cons (je_var 4) (ja_nil))))) 4))))))) (jss_one (js_expr (je_mL PySem.F.slot_list_append PySem.F.type_list_append mt_append mtl_app (je_var 6) (ja_cons (je_op op_mod opl_mod (je_callTy call_int1 cbl_int (by rfl) T.n_int bt_int (ja_cons (je_var 8) (ja_nil))) (je_var 4)) (ja_nil)))))))) (jss_one (js_ret (je_var 6)))))) rd__law_join_poly⟩
theorem ok__law_step {P : Program} {w : World} {K : PySem.W.Frag} {mg : Str → Option Value} {base : Heap} (T : Txt K mg) (G_M_SumAsker_throw : OkM P w K base mg "SumAsker" "throw" 6 ["self", "number"] C_SumAsker_throw) (G_M_Join_throw : OkM P w K base mg "Join" "throw" 7 ["self", "number"] C_Join_throw) (G_M_JoinAnswerer_throw : OkM P w K base mg "JoinAnswerer" "throw" 2 ["self", "number"] C_JoinAnswerer_throw) (G_M_Join_answer : OkM P w K base mg "Join" "answer" 4 ["self", "values"] C_Join_answer) (G_M_Join_answer_value : OkM P w K base mg "Join" "answer_value" 3 ["self", "number"] C_Join_answer_value) : Ok P w K mg base "_law_step" 8 ["_law_join", "_law_kind", "_law_given"] C__law_step := by
  obtain ⟨f, fd, F, hm, b⟩ := T.d__law_step
  exact ⟨f, fd, hm, F.kp, b, okD (W := W__law_step) (k := 7) F sc__law_step (fun cdv A outer s H E hr => jss_cons (js_try_as (B := "TalkError") (L := [("FieldError", false), ("TalkError", true)]) 3 sc__law_step.nd rfl takesD (by rfl) T.g_TalkError T.x_TalkError (fun _ _ _ tk1 hp1 => jss_one (js_if (jt_cmp (op_eqD hr.units) opl_eq (je_var 1) (je_str) (nomark _)) (jss_one (js_expr (je_meth (mn := "throw") (lv := 7) (n := 1) (tab := [("SumAsker", C_SumAsker_throw), ("Join", C_Join_throw), ("JoinAnswerer", C_JoinAnswerer_throw)]) (okMs_cons G_M_SumAsker_throw rfl (by decide) (okMs_cons G_M_Join_throw rfl (by decide) (okMs_cons G_M_JoinAnswerer_throw rfl (by decide) okMs_nil))) tk1 (hr.mono (by decide)) (je_var 0) (ja_cons (je_var 2) (ja_nil))))) (jss_one (js_if (jt_cmp (op_eqD hr.units) opl_eq (je_var 1) (je_str) (nomark _)) (jss_one (js_expr (je_meth (mn := "answer") (lv := 4) (n := 1) (tab := [("Join", C_Join_answer)]) (okMs_cons G_M_Join_answer rfl (by decide) okMs_nil) tk1 (hr.mono (by decide)) (je_var 0) (ja_cons (je_var 2) (ja_nil))))) (jss_one (js_expr (je_meth (mn := "answer_value") (lv := 3) (n := 1) (tab := [("Join", C_Join_answer_value)]) (okMs_cons G_M_Join_answer_value rfl (by decide) okMs_nil) tk1 (hr.mono (by decide)) (je_var 0) (ja_cons (je_var 2) (ja_nil))))))))) (fun a1 _ c1 d1 _ hl1 hz1 hf1 => jss_one (js_ret (je_cmp (op_eqD hr.units) opl_eq (je_xf (f := "step") (T.s_TalkError c1 _ hl1).1 ((T.s_TalkError c1 _ hl1).2 "step" (by decide)) hz1 hf1 (je_var 3)) (je_var 1) (nomark _))))) (jss_one (js_ret (je_bl)))) rd__law_step⟩
theorem ok__law_wrong_steps {P : Program} {w : World} {K : PySem.W.Frag} {mg : Str → Option Value} {base : Heap} (T : Txt K mg) (G_M_Join_wants : OkM P w K base mg "Join" "wants" 2 ["self"] C_Join_wants) (G__law_step : Ok P w K mg base "_law_step" 8 ["_law_join", "_law_kind", "_law_given"] C__law_step) : Ok P w K mg base "_law_wrong_steps" 9 ["_law_join", "_law_due", "_law_p"] C__law_wrong_steps := by
  obtain ⟨f, fd, F, hm, b⟩ := T.d__law_wrong_steps
  exact ⟨f, fd, hm, F.kp, b, okD (W := W__law_wrong_steps) (k := 8) F sc__law_wrong_steps (fun cdv A outer s H E hr => jss_cons (js_for passD rfl (ji_list (je_lst (ja_cons (je_tup (ja_cons (je_str) (ja_cons (je_int) (ja_nil)))) (ja_cons (je_tup (ja_cons (je_str) (ja_cons (je_lst (ja_cons (je_int) (ja_cons (je_int) (ja_cons (je_int) (ja_nil))))) (ja_nil)))) (ja_cons (je_tup (ja_cons (je_str) (ja_cons (je_int) (ja_nil)))) (ja_nil)))))) (jg_tup (js := [3, 4]) [3, 4] rfl (by decide) (pgs_cons (pg_name (i := 3) sc__law_wrong_steps.nd rfl (Or.inl rfl)) (pgs_cons (pg_name (i := 4) sc__law_wrong_steps.nd rfl (Or.inl rfl)) (pgs_nil)))) (jss_one (js_if (PW.pt (jw_and (jt_cmp (op_neD hr.units) opl_ne (je_var 3) (je_var 1) (nomark _)) (jw_and1 (jt_not (jt_val (je_callO G__law_step takesD (hr.mono (by decide)) (by rfl) (ja_cons (je_var 0) (ja_cons (je_var 3) (ja_cons (je_var 4) (ja_nil)))) 3)))))) (jss_one (js_ret (je_bl))) (jss_nil)))) (jss_one (js_ret (je_and (je_cmp (op_eqD hr.units) opl_eq (je_meth0 (mn := "wants") (lv := 2) (tab := [("Join", C_Join_wants)]) (okMs_cons G_M_Join_wants rfl (by decide) okMs_nil) takesD (hr.mono (by decide)) (je_var 0)) (je_var 1) (nomark _)) (je_one (je_or (je_cmp (op_neD hr.units) opl_ne (je_var 1) (je_str) (nomark _)) (je_one (je_callO G__law_step takesD (hr.mono (by decide)) (by rfl) (ja_cons (je_var 0) (ja_cons (je_str) (ja_cons (je_var 2) (ja_nil)))) 3)))))))) rd__law_wrong_steps⟩
theorem ok__law_rounds {P : Program} {w : World} {K : PySem.W.Frag} {mg : Str → Option Value} {base : Heap} (T : Txt K mg) (G__law_join_poly : Ok P w K mg base "_law_join_poly" 3 ["_law_table", "_law_points", "_law_mix", "_law_before", "_law_p"] C__law_join_poly) (G__law_number : Ok P w K mg base "_law_number" 2 ["_law_row", "_law_p"] C__law_number__61) (G_M_SumAsker_throw : OkM P w K base mg "SumAsker" "throw" 6 ["self", "number"] C_SumAsker_throw) (G_M_Join_throw : OkM P w K base mg "Join" "throw" 7 ["self", "number"] C_Join_throw) (G_M_JoinAnswerer_throw : OkM P w K base mg "JoinAnswerer" "throw" 2 ["self", "number"] C_JoinAnswerer_throw) (G__law_take : Ok P w K mg base "_law_take" 1 ["_law_row", "_law_many"] C_take) (G_M_JoinAnswerer_poly : OkM P w K base mg "JoinAnswerer" "poly" 2 ["self"] C_JoinAnswerer_poly) (G__law_wrong_steps : Ok P w K mg base "_law_wrong_steps" 9 ["_law_join", "_law_due", "_law_p"] C__law_wrong_steps) (G_M_Join_answer : OkM P w K base mg "Join" "answer" 4 ["self", "values"] C_Join_answer) : Ok P w K mg base "_law_rounds" 10 ["_law_row", "_law_join", "_law_answerer", "_law_table", "_law_points", "_law_mix", "_law_p"] C__law_rounds := by
  obtain ⟨f, fd, F, hm, b⟩ := T.d__law_rounds
  exact ⟨f, fd, hm, F.kp, b, okD (W := W__law_rounds) (k := 9) F sc__law_rounds (fun cdv A outer s H E hr => jss_cons (js_set 7 sc__law_rounds.nd rfl (Or.inl rfl) (je_lst (ja_nil))) (jss_cons (js_for passD rfl (ji_range1 (by rfl) T.n_range (ja_cons (je_callB call_len cbl_len (by rfl) T.n_len bt_len (ja_cons (je_ix (je_var 4) (je_int)) (ja_nil))) (ja_nil))) (jg_name (js := [8]) 8 (by decide) sc__law_rounds.nd rfl (Or.inl rfl)) (jss_cons (js_set 9 sc__law_rounds.nd rfl (Or.inl rfl) (je_callO G__law_join_poly takesD (hr.mono (by decide)) (by rfl) (ja_cons (je_var 3) (ja_cons (je_var 4) (ja_cons (je_var 5) (ja_cons (je_var 7) (ja_cons (je_var 6) (ja_nil)))))) 5)) (jss_cons (js_if (PW.pt (jw_or (jt_cmp (op_neD hr.units) opl_ne (je_meth0 (mn := "poly") (lv := 2) (tab := [("JoinAnswerer", C_JoinAnswerer_poly)]) (okMs_cons G_M_JoinAnswerer_poly rfl (by decide) okMs_nil) takesD (hr.mono (by decide)) (je_var 2)) (je_var 9) (nomark _)) (jw_or1 (jt_not (jt_val (je_callO G__law_wrong_steps takesD (hr.mono (by decide)) (by rfl) (ja_cons (je_var 1) (ja_cons (je_str) (ja_cons (je_var 6) (ja_nil)))) 3)))))) (jss_one (js_ret (je_non))) (jss_nil)) (jss_cons (js_set 10 sc__law_rounds.nd rfl (Or.inl rfl) (je_op op_addAll opl_add (je_int) (je_callO G__law_take takesD (hr.mono (by decide)) (by rfl) (ja_cons (je_var 0) (ja_cons (je_op op_sub opl_sub (je_var 6) (je_int)) (ja_nil))) 2))) (jss_cons (js_set 11 sc__law_rounds.nd rfl (Or.inl rfl) (je_ix (je_lst (ja_cons (je_sl (je_var 9) (jo_none) (jo_some (je_int))) (ja_cons (je_op op_addAll opl_add (je_var 9) (je_lst (ja_cons (je_int) (ja_nil)))) (ja_cons (je_op op_addAll opl_add (je_lst (ja_cons (je_var 6) (ja_nil))) (je_sl (je_var 9) (jo_some (je_int)) (jo_none))) (ja_cons (je_op op_addAll opl_add (je_lst (ja_cons (je_op op_mod opl_mod (je_callTy call_int1 cbl_int (by rfl) T.n_int bt_int (ja_cons (je_op op_addAll opl_add (je_ix (je_var 9) (je_int)) (je_var 10)) (ja_nil))) (je_var 6)) (ja_nil))) (je_sl (je_var 9) (jo_some (je_int)) (jo_none))) (ja_cons (je_op op_addAll opl_add (je_sl (je_var 9) (jo_none) (jo_some (je_int))) (je_lst (ja_cons (je_op op_sub opl_sub (je_int) (je_int)) (ja_nil)))) (ja_nil))))))) (je_callO G__law_take takesD (hr.mono (by decide)) (by rfl) (ja_cons (je_var 0) (ja_cons (je_int) (ja_nil))) 2))) (jss_cons (js_if (PW.pt (jw_or (jt_cmp op_notBl opl_notB (je_meth (mn := "answer") (lv := 4) (n := 1) (tab := [("Join", C_Join_answer)]) (okMs_cons G_M_Join_answer rfl (by decide) okMs_nil) takesD (hr.mono (by decide)) (je_var 1) (ja_cons (je_var 11) (ja_nil))) (je_bl) (nomark _)) (jw_or (jt_cmp op_notBl opl_notB (je_meth (mn := "answer") (lv := 4) (n := 1) (tab := [("Join", C_Join_answer)]) (okMs_cons G_M_Join_answer rfl (by decide) okMs_nil) takesD (hr.mono (by decide)) (je_var 1) (ja_cons (je_var 9) (ja_nil))) (je_bl) (nomark _)) (jw_or1 (jt_not (jt_val (je_callO G__law_wrong_steps takesD (hr.mono (by decide)) (by rfl) (ja_cons (je_var 1) (ja_cons (je_str) (ja_cons (je_var 6) (ja_nil)))) 3))))))) (jss_one (js_ret (je_non))) (jss_nil)) (jss_cons (js_set 12 sc__law_rounds.nd rfl (Or.inl rfl) (je_callO G__law_number takesD (hr.mono (by decide)) (by rfl) (ja_cons (je_var 0) (ja_cons (je_var 6) (ja_nil))) 2)) (jss_cons (js_expr (je_meth (mn := "throw") (lv := 7) (n := 1) (tab := [("SumAsker", C_SumAsker_throw), ("Join", C_Join_throw), ("JoinAnswerer", C_JoinAnswerer_throw)]) (okMs_cons G_M_SumAsker_throw rfl (by decide) (okMs_cons G_M_Join_throw rfl (by decide) (okMs_cons G_M_JoinAnswerer_throw rfl (by decide) okMs_nil))) takesD (hr.mono (by decide)) (je_var 1) (ja_cons (je_var 12) (ja_nil)))) (jss_cons (js_expr (je_meth (mn := "throw") (lv := 7) (n := 1) (tab := [("SumAsker", C_SumAsker_throw), ("Join", C_Join_throw), ("JoinAnswerer", C_JoinAnswerer_throw)]) (okMs_cons G_M_SumAsker_throw rfl (by decide) (okMs_cons G_M_Join_throw rfl (by decide) (okMs_cons G_M_JoinAnswerer_throw rfl (by decide) okMs_nil))) takesD (hr.mono (by decide)) (je_var 2) (ja_cons (je_var 12) (ja_nil)))) (jss_one (js_set 7 sc__law_rounds.nd rfl (Or.inl rfl) (je_op op_addAll opl_add (je_var 7) (je_lst (ja_cons (je_var 12) (ja_nil))))))))))))))) (jss_one (js_ret (je_var 7))))) rd__law_rounds⟩
theorem ok_law {P : Program} {w : World} {K : PySem.W.Frag} {mg : Str → Option Value} {base : Heap} {f : Addr} {fd : FuncData} (T : Txt K mg) (G__law_stream : Ok P w K mg base "_law_stream" 1 ["_law_script"] C_stream) (G__law_take : Ok P w K mg base "_law_take" 1 ["_law_row", "_law_many"] C_take) (G__law_number : Ok P w K mg base "_law_number" 2 ["_law_row", "_law_p"] C__law_number__61) (G_I_Join : OkI P w K mg base "Join" 1 ["self", "p", "points", "claims"] C_Join_init) (G_I_JoinAnswerer : OkI P w K mg base "JoinAnswerer" 1 ["self", "p", "table", "points"] C_JoinAnswerer_init) (G_M_Join_throw : OkM P w K base mg "Join" "throw" 7 ["self", "number"] C_Join_throw) (G_M_JoinAnswerer_throw : OkM P w K base mg "JoinAnswerer" "throw" 2 ["self", "number"] C_JoinAnswerer_throw) (G__law_rounds : Ok P w K mg base "_law_rounds" 10 ["_law_row", "_law_join", "_law_answerer", "_law_table", "_law_points", "_law_mix", "_law_p"] C__law_rounds) (G__law_value : Ok P w K mg base "_law_value" 2 ["_law_table", "_law_point", "_law_p"] C__law_value__2) (G_join_answers : Ok P w K mg base "join_answers" 8 ["answerer", "throws"] C_join_answers) (G_mixed : Ok P w K mg base "mixed" 1 ["numbers", "mix", "p"] C_mixed) (G__law_mixed : Ok P w K mg base "_law_mixed" 1 ["_law_numbers", "_law_mix", "_law_p"] C__law_mixed) (G__law_wrong_steps : Ok P w K mg base "_law_wrong_steps" 9 ["_law_join", "_law_due", "_law_p"] C__law_wrong_steps) (G__law_join_poly : Ok P w K mg base "_law_join_poly" 3 ["_law_table", "_law_points", "_law_mix", "_law_before", "_law_p"] C__law_join_poly) (G_M_JoinAnswerer_value : OkM P w K base mg "JoinAnswerer" "value" 1 ["self"] C_JoinAnswerer_value) (G_M_Join_answer_value : OkM P w K base mg "Join" "answer_value" 3 ["self", "number"] C_Join_answer_value) (G__law_weight : Ok P w K mg base "_law_weight" 2 ["_law_points", "_law_mix", "_law_spot", "_law_p"] C__law_weight) (F : Fun K "law" "law" s_law f fd) : LawAt P w K mg base f fd ["_law_script"] (spOf K 1 (CLaw ClawT)) :=
  lawAtD (W := W_law) (k := 10) F sc_law ⟨rfl, by decide, by decide⟩ (fun cdv A outer s H E hgA hr => jss_cons (js_set 1 sc_law.nd rfl (Or.inr rfl) (je_callO G__law_stream takesD (hr.mono (by decide)) (by rfl) (ja_cons (je_var 0) (ja_nil)) 1)) (jss_cons (js_set 2 sc_law.nd rfl (Or.inr rfl) (je_ix (je_lst (ja_cons (je_int) (ja_cons (je_int) (ja_cons (je_int) (ja_cons (je_int) (ja_cons (je_int) (ja_nil))))))) (je_callO G__law_take takesD (hr.mono (by decide)) (by rfl) (ja_cons (je_var 1) (ja_cons (je_int) (ja_nil))) 2))) (jss_cons (js_set 3 sc_law.nd rfl (Or.inl rfl) (je_callO G__law_take takesD (hr.mono (by decide)) (by rfl) (ja_cons (je_var 1) (ja_cons (je_int) (ja_nil))) 2)) (jss_cons (js_set 4 sc_law.nd rfl (Or.inr rfl) (je_lc (own := [("_law_k", 6)]) rfl sc_law.nd (ji_range1 (by rfl) T.n_range (ja_cons (je_op op_shl opl_shl (je_int) (je_var 3)) (ja_nil))) (blkOk_by (N := ["_law_script", "_law_row", "_law_p", "_law_many", "_law_table", "_law_points", "_law_k", "_law_claims", "_law_kept", "_law_mix", "_law_numbers", "_law_join", "_law_answerer", "_law_before", "_law_value_here", "_law_other", "_law_told", "_law_due", "_law_point", "_law_j"]) (sc := defScope s_law) (by decide +kernel)) (fun _ _ _ _ _ => jg_name (js := [6]) 6 (by decide) sc_law.nd rfl (Or.inl rfl)) (fun _ _ _ _ _ => jts_nil) (fun _ _ _ _ _ => je_callO G__law_number takes0 (hr.mono (by decide)) (by rfl) (ja_cons (je_var 1) (ja_cons (je_var 2) (ja_nil))) 2))) (jss_cons (js_set 5 sc_law.nd rfl (Or.inr rfl) (je_lstM (ja_nil))) (jss_cons (js_for passD rfl (ji_range1 (by rfl) T.n_range (ja_cons (je_op op_addAll opl_add (je_int) (je_callO G__law_take takesD (hr.mono (by decide)) (by rfl) (ja_cons (je_var 1) (ja_cons (je_int) (ja_nil))) 2)) (ja_nil))) (jg_name (js := [6]) 6 (by decide) sc_law.nd rfl (Or.inl rfl)) (jss_cons (js_setLc (own := [("_law_j", 19)]) 18 rfl sc_law.nd rfl rfl (sw_true rfl rfl rfl (by decide +kernel)) (ji_range1 (by rfl) T.n_range (ja_cons (je_var 3) (ja_nil))) (blkOk_by (N := ["_law_script", "_law_row", "_law_p", "_law_many", "_law_table", "_law_points", "_law_k", "_law_claims", "_law_kept", "_law_mix", "_law_numbers", "_law_join", "_law_answerer", "_law_before", "_law_value_here", "_law_other", "_law_told", "_law_due", "_law_point", "_law_j"]) (sc := defScope s_law) (by decide +kernel)) (fun _ _ _ _ _ => jg_name (js := [19]) 19 (by decide) sc_law.nd rfl (Or.inl rfl)) (fun _ _ _ _ _ => jts_nil) (fun _ _ _ _ _ => je_callO G__law_number takes0 (hr.mono (by decide)) (by rfl) (ja_cons (je_var 1) (ja_cons (je_ix (je_lst (ja_cons (je_int) (ja_cons (je_var 2) (ja_nil)))) (je_callO G__law_take takes0 (hr.mono (by decide)) (by rfl) (ja_cons (je_var 1) (ja_cons (je_int) (ja_nil))) 2)) (ja_nil))) 2)) (jss_cons (js_if (PW.pt (jw_and (jt_list (je_var 5)) (jw_and1 (jt_cmp (op_eqD hr.units) opl_eq (je_callO G__law_take takesD (hr.mono (by decide)) (by rfl) (ja_cons (je_var 1) (ja_cons (je_int) (ja_nil))) 2) (je_int) (nomark _))))) (jss_one (js_set 18 sc_law.nd rfl (Or.inl rfl) (je_callTy call_list_of cbl_list (by rfl) T.n_list bt_list (ja_cons (je_ix (je_var 5) (je_int)) (ja_nil))))) (jss_nil)) (jss_one (js_expr (je_mL PySem.F.slot_list_append PySem.F.type_list_append mt_append mtl_app (je_var 5) (ja_cons (je_var 18) (ja_nil)))))))) (jss_cons (js_frz 5 (js_setLc (own := [("_law_point", 18)]) 7 rfl sc_law.nd rfl rfl (sw_true rfl rfl rfl (by decide +kernel)) (ji_list (je_var 5)) (blkOk_by (N := ["_law_script", "_law_row", "_law_p", "_law_many", "_law_table", "_law_points", "_law_k", "_law_claims", "_law_kept", "_law_mix", "_law_numbers", "_law_join", "_law_answerer", "_law_before", "_law_value_here", "_law_other", "_law_told", "_law_due", "_law_point", "_law_j"]) (sc := defScope s_law) (by decide +kernel)) (fun _ _ _ _ _ => jg_name (js := [18]) 18 (by decide) sc_law.nd rfl (Or.inl rfl)) (fun _ _ _ _ _ => jts_nil) (fun _ _ _ _ _ => je_callO G__law_value takes0 (hr.mono (by decide)) (by rfl) (ja_cons (je_var 4) (ja_cons (je_var 18) (ja_cons (je_var 2) (ja_nil)))) 3))) (jss_cons (js_set 8 sc_law.nd rfl (Or.inl rfl) (je_callB (callR_repr2 hgA (room_un hr)) cbl_repr2 (by rfl) T.n_repr bt_repr (ja_cons (je_tup (ja_cons (je_var 4) (ja_cons (je_var 5) (ja_cons (je_var 7) (ja_nil))))) (ja_nil)))) (jss_cons (js_set 9 sc_law.nd rfl (Or.inr rfl) (je_callO G__law_number takesD (hr.mono (by decide)) (by rfl) (ja_cons (je_var 1) (ja_cons (je_var 2) (ja_nil))) 2)) (jss_cons (js_setLc (own := [("_law_k", 6)]) 10 rfl sc_law.nd rfl rfl (sw_true rfl rfl rfl (by decide +kernel)) (ji_range1 (by rfl) T.n_range (ja_cons (je_callO G__law_take takesD (hr.mono (by decide)) (by rfl) (ja_cons (je_var 1) (ja_cons (je_int) (ja_nil))) 2) (ja_nil))) (blkOk_by (N := ["_law_script", "_law_row", "_law_p", "_law_many", "_law_table", "_law_points", "_law_k", "_law_claims", "_law_kept", "_law_mix", "_law_numbers", "_law_join", "_law_answerer", "_law_before", "_law_value_here", "_law_other", "_law_told", "_law_due", "_law_point", "_law_j"]) (sc := defScope s_law) (by decide +kernel)) (fun _ _ _ _ _ => jg_name (js := [6]) 6 (by decide) sc_law.nd rfl (Or.inl rfl)) (fun _ _ _ _ _ => jts_nil) (fun _ _ _ _ _ => je_callO G__law_number takes0 (hr.mono (by decide)) (by rfl) (ja_cons (je_var 1) (ja_cons (je_var 2) (ja_nil))) 2)) (jss_cons (js_if (jt_cmp (op_neD hr.units) opl_ne (je_callO G_mixed takesD (hr.mono (by decide)) (by rfl) (ja_cons (je_var 10) (ja_cons (je_var 9) (ja_cons (je_var 2) (ja_nil)))) 3) (je_callO G__law_mixed takesD (hr.mono (by decide)) (by rfl) (ja_cons (je_var 10) (ja_cons (je_var 9) (ja_cons (je_var 2) (ja_nil)))) 3) (nomark _)) (jss_one (js_ret (je_bl))) (jss_nil)) (jss_cons (js_set 11 sc_law.nd rfl (Or.inl rfl) (je_make G_I_Join takesD (hr.mono (by decide)) (by rfl) (ja_cons (je_var 2) (ja_cons (je_var 5) (ja_cons (je_var 7) (ja_nil)))) 3)) (jss_cons (js_set 12 sc_law.nd rfl (Or.inl rfl) (je_make G_I_JoinAnswerer takesD (hr.mono (by decide)) (by rfl) (ja_cons (je_var 2) (ja_cons (je_var 4) (ja_cons (je_var 5) (ja_nil)))) 3)) (jss_cons (js_if (jt_not (jt_val (je_callO G__law_wrong_steps takesD (hr.mono (by decide)) (by rfl) (ja_cons (je_var 11) (ja_cons (je_str) (ja_cons (je_var 2) (ja_nil)))) 3))) (jss_one (js_ret (je_bl))) (jss_nil)) (jss_cons (js_expr (je_meth (mn := "throw") (lv := 7) (n := 1) (tab := [("Join", C_Join_throw)]) (okMs_cons G_M_Join_throw rfl (by decide) okMs_nil) takesD (hr.mono (by decide)) (je_var 11) (ja_cons (je_var 9) (ja_nil)))) (jss_cons (js_expr (je_meth (mn := "throw") (lv := 2) (n := 1) (tab := [("JoinAnswerer", C_JoinAnswerer_throw)]) (okMs_cons G_M_JoinAnswerer_throw rfl (by decide) okMs_nil) takesD (hr.mono (by decide)) (je_var 12) (ja_cons (je_var 9) (ja_nil)))) (jss_cons (js_set 13 sc_law.nd rfl (Or.inr rfl) (je_callO G__law_rounds takesD (hr.mono (by decide)) (by rfl) (ja_cons (je_var 1) (ja_cons (je_var 11) (ja_cons (je_var 12) (ja_cons (je_var 4) (ja_cons (je_var 5) (ja_cons (je_var 9) (ja_cons (je_var 2) (ja_nil)))))))) 7)) (jss_cons (js_if (PW.pt (jw_or (jt_cmp op_isN opl_isN (je_var 13) (je_non) (nomark _)) (jw_or (jt_not (jt_val (je_callO G__law_wrong_steps takesD (hr.mono (by decide)) (by rfl) (ja_cons (je_var 11) (ja_cons (je_str) (ja_cons (je_var 2) (ja_nil)))) 3))) (jw_or1 (jt_cmp op_notN opl_notN (je_fld T.f_next_point (je_var 11)) (je_non) (nomark _)))))) (jss_one (js_ret (je_bl))) (jss_nil)) (jss_cons (js_set 14 sc_law.nd rfl (Or.inl rfl) (je_callO G__law_value takesD (hr.mono (by decide)) (by rfl) (ja_cons (je_var 4) (ja_cons (je_var 13) (ja_cons (je_var 2) (ja_nil)))) 3)) (jss_cons (js_set 15 sc_law.nd rfl (Or.inl rfl) (je_op op_mod opl_mod (je_callTy call_int1 cbl_int (by rfl) T.n_int bt_int (ja_cons (je_op op_addAll opl_add (je_op op_addAll opl_add (je_var 14) (je_int)) (je_callO G__law_take takesD (hr.mono (by decide)) (by rfl) (ja_cons (je_var 1) (ja_cons (je_op op_sub opl_sub (je_var 2) (je_int)) (ja_nil))) 2)) (ja_nil))) (je_var 2))) (jss_cons (js_if (PW.pt (jw_or (jt_cmp (op_neD hr.units) opl_ne (je_meth0 (mn := "value") (lv := 1) (tab := [("JoinAnswerer", C_JoinAnswerer_value)]) (okMs_cons G_M_JoinAnswerer_value rfl (by decide) okMs_nil) takesD (hr.mono (by decide)) (je_var 12)) (je_var 14) (nomark _)) (jw_or1 (jt_cmp op_notBl opl_notB (je_meth (mn := "answer_value") (lv := 3) (n := 1) (tab := [("Join", C_Join_answer_value)]) (okMs_cons G_M_Join_answer_value rfl (by decide) okMs_nil) takesD (hr.mono (by decide)) (je_var 11) (ja_cons (je_var 2) (ja_nil))) (je_bl) (nomark _))))) (jss_one (js_ret (je_bl))) (jss_nil)) (jss_cons (js_if (PW.pt (jw_and (jt_cmp (op_neD hr.units) opl_ne (je_callO G__law_weight takesD (hr.mono (by decide)) (by rfl) (ja_cons (je_var 5) (ja_cons (je_var 9) (ja_cons (je_var 13) (ja_cons (je_var 2) (ja_nil))))) 4) (je_int) (nomark _)) (jw_and1 (jt_cmp op_notBl opl_notB (je_meth (mn := "answer_value") (lv := 3) (n := 1) (tab := [("Join", C_Join_answer_value)]) (okMs_cons G_M_Join_answer_value rfl (by decide) okMs_nil) takesD (hr.mono (by decide)) (je_var 11) (ja_cons (je_var 15) (ja_nil))) (je_bl) (nomark _))))) (jss_one (js_ret (je_bl))) (jss_nil)) (jss_cons (js_if (PW.pt (jw_or (jt_cmp op_notBl opl_notB (je_meth (mn := "answer_value") (lv := 3) (n := 1) (tab := [("Join", C_Join_answer_value)]) (okMs_cons G_M_Join_answer_value rfl (by decide) okMs_nil) takesD (hr.mono (by decide)) (je_var 11) (ja_cons (je_var 14) (ja_nil))) (je_bl) (nomark _)) (jw_or (jt_cmp (op_neD hr.units) opl_ne (je_fld T.f_next_point (je_var 11)) (je_var 13) (nomark _)) (jw_or1 (jt_cmp (op_neD hr.units) opl_ne (je_fld T.f_next_claim (je_var 11)) (je_var 14) (nomark _)))))) (jss_one (js_ret (je_bl))) (jss_nil)) (jss_cons (js_if (PW.pt (jw_or (jt_not (jt_val (je_callO G__law_wrong_steps takesD (hr.mono (by decide)) (by rfl) (ja_cons (je_var 11) (ja_cons (je_str) (ja_cons (je_var 2) (ja_nil)))) 3))) (jw_or1 (jt_cmp op_ne opl_neS (je_callB (callR_repr2 hgA (room_un hr)) cbl_repr2 (by rfl) T.n_repr bt_repr (ja_cons (je_tup (ja_cons (je_var 4) (ja_cons (je_var 5) (ja_cons (je_var 7) (ja_nil))))) (ja_nil))) (je_var 8) (nomark _))))) (jss_one (js_ret (je_bl))) (jss_nil)) (jss_cons (js_set 16 sc_law.nd rfl (Or.inl rfl) (je_callO G_join_answers takesD (hr.mono (by decide)) (by rfl) (ja_cons (je_make G_I_JoinAnswerer takesD (hr.mono (by decide)) (by rfl) (ja_cons (je_var 2) (ja_cons (je_var 4) (ja_cons (je_var 5) (ja_nil)))) 3) (ja_cons (je_op op_addAll opl_add (je_lst (ja_cons (je_var 9) (ja_nil))) (je_var 13)) (ja_nil))) 2)) (jss_cons (js_setLc (own := [("_law_k", 6)]) 17 rfl sc_law.nd rfl rfl (sw_true rfl rfl rfl (by decide +kernel)) (ji_range1 (by rfl) T.n_range (ja_cons (je_var 3) (ja_nil))) (blkOk_by (N := ["_law_script", "_law_row", "_law_p", "_law_many", "_law_table", "_law_points", "_law_k", "_law_claims", "_law_kept", "_law_mix", "_law_numbers", "_law_join", "_law_answerer", "_law_before", "_law_value_here", "_law_other", "_law_told", "_law_due", "_law_point", "_law_j"]) (sc := defScope s_law) (by decide +kernel)) (fun _ _ _ _ _ => jg_name (js := [6]) 6 (by decide) sc_law.nd rfl (Or.inl rfl)) (fun _ _ _ _ _ => jts_nil) (fun _ _ _ _ _ => je_callO G__law_join_poly takes0 (hr.mono (by decide)) (by rfl) (ja_cons (je_var 4) (ja_cons (je_var 5) (ja_cons (je_var 9) (ja_cons (je_sl (je_var 13) (jo_none) (jo_some (je_var 6))) (ja_cons (je_var 2) (ja_nil)))))) 5)) (jss_one (js_ret (je_and (je_callB call_isi cbl_isi (by rfl) T.n_isinstance bt_isinstance (ja_cons (je_var 16) (ja_cons (je_ty (n := "tuple") (by rfl) T.n_tuple bt_tuple) (ja_nil)))) (je_one (je_cmp (op_eqD hr.units) opl_eq (je_var 16) (je_tup (ja_cons (je_var 17) (ja_cons (je_var 14) (ja_nil)))) (nomark _)))))))))))))))))))))))))))))))) rd_law
theorem all_ok {P : Program} {w : World} {K : PySem.W.Frag} {mg : Str → Option Value} {base : Heap} {f : Addr} {fd : FuncData} (T : Txt K mg) (F : Fun K "law" "law" s_law f fd) : LawAt P w K mg base f fd ["_law_script"] (spOf K 1 (CLaw ClawT)) := by
  have G_FieldError := ok_FieldError (P := P) (w := w) (base := base) T
  have G_TalkError := ok_TalkError (P := P) (w := w) (base := base) T
  have G__law_stream := ok__law_stream (P := P) (w := w) (base := base) T
  have G__law_take := ok__law_take (P := P) (w := w) (base := base) T
  have G__law_number := ok__law_number (P := P) (w := w) (base := base) T G__law_take
  have G_I_Join := ok_I_Join (P := P) (w := w) (base := base) T
  have G_I_JoinAnswerer := ok_I_JoinAnswerer (P := P) (w := w) (base := base) T
  have G_I_SumAsker := ok_I_SumAsker (P := P) (w := w) (base := base) T
  have G_power := ok_power (P := P) (w := w) (base := base) T
  have G_inverse := ok_inverse (P := P) (w := w) (base := base) T G_FieldError G_power
  have G_weights := ok_weights (P := P) (w := w) (base := base) T G_inverse
  have G_value := ok_value (P := P) (w := w) (base := base) T G_weights
  have G_M_SumAsker_throw := ok_M_SumAsker_throw (P := P) (w := w) (base := base) T G_TalkError G_value
  have G_M_SumAsker_is_done := ok_M_SumAsker_is_done (P := P) (w := w) (base := base) T
  have G_M_Join_wants := ok_M_Join_wants (P := P) (w := w) (base := base) T G_M_SumAsker_is_done
  have G_is_number := ok_is_number (P := P) (w := w) (base := base) T
  have G_mixed := ok_mixed (P := P) (w := w) (base := base) T
  have G_M_Join_throw := ok_M_Join_throw (P := P) (w := w) (base := base) T G_TalkError G_I_SumAsker G_M_SumAsker_throw G_M_Join_wants G_is_number G_mixed
  have G_fold := ok_fold (P := P) (w := w) (base := base) T
  have G_point_table := ok_point_table (P := P) (w := w) (base := base) T
  have G_M_JoinAnswerer_throw := ok_M_JoinAnswerer_throw (P := P) (w := w) (base := base) T G_fold G_point_table G_mixed
  have G__law_corner := ok__law_corner (P := P) (w := w) (base := base) T
  have G__law_near := ok__law_near (P := P) (w := w) (base := base) T
  have G__law_value := ok__law_value (P := P) (w := w) (base := base) T G__law_near G__law_corner
  have G__law_mixed := ok__law_mixed (P := P) (w := w) (base := base) T
  have G__law_weight := ok__law_weight (P := P) (w := w) (base := base) T G__law_mixed G__law_near
  have G__law_join_poly := ok__law_join_poly (P := P) (w := w) (base := base) T G__law_corner G__law_value G__law_weight
  have G_M_JoinAnswerer_poly := ok_M_JoinAnswerer_poly (P := P) (w := w) (base := base) T G_fold
  have G_corners := ok_corners (P := P) (w := w) (base := base) T
  have G_M_SumAsker_accept := ok_M_SumAsker_accept (P := P) (w := w) (base := base) T G_TalkError G_M_SumAsker_is_done G_corners G_is_number
  have G_M_Join_answer := ok_M_Join_answer (P := P) (w := w) (base := base) T G_TalkError G_M_SumAsker_accept G_M_Join_wants
  have G_nearness := ok_nearness (P := P) (w := w) (base := base) T
  have G_M_Join_answer_value := ok_M_Join_answer_value (P := P) (w := w) (base := base) T G_TalkError G_mixed G_M_Join_wants G_nearness G_is_number
  have G__law_step := ok__law_step (P := P) (w := w) (base := base) T G_M_SumAsker_throw G_M_Join_throw G_M_JoinAnswerer_throw G_M_Join_answer G_M_Join_answer_value
  have G__law_wrong_steps := ok__law_wrong_steps (P := P) (w := w) (base := base) T G_M_Join_wants G__law_step
  have G__law_rounds := ok__law_rounds (P := P) (w := w) (base := base) T G__law_join_poly G__law_number G_M_SumAsker_throw G_M_Join_throw G_M_JoinAnswerer_throw G__law_take G_M_JoinAnswerer_poly G__law_wrong_steps G_M_Join_answer
  have G_M_JoinAnswerer_value := ok_M_JoinAnswerer_value (P := P) (w := w) (base := base) T
  have G_join_answers := ok_join_answers (P := P) (w := w) (base := base) T G_M_SumAsker_throw G_M_Join_throw G_M_JoinAnswerer_throw G_M_JoinAnswerer_value G_M_JoinAnswerer_poly
  exact ok_law T G__law_stream G__law_take G__law_number G_I_Join G_I_JoinAnswerer G_M_Join_throw G_M_JoinAnswerer_throw G__law_rounds G__law_value G_join_answers G_mixed G__law_mixed G__law_wrong_steps G__law_join_poly G_M_JoinAnswerer_value G_M_Join_answer_value G__law_weight F
theorem law_fin {l : PySem.W.OpenLaw} {w : World} {K : PySem.W.Frag} {mg : Str → Option Value} {fa : Addr} (T : Txt K mg) (hfa : mg "law" = some (.ref fa)) : ∃ fd : FuncData, (∀ (s : Shared) (v : Value), BindsTo s fd ⟨[v], []⟩ [("_law_script", v)]) ∧
    ∀ base : Heap, K.In base → base.Ns mainGlobals mg → LawAt l.prog w K mg base fa fd ["_law_script"] (spOf K 1 (CLaw ClawT)) := by
  obtain ⟨f, fd, F, hm, b⟩ := T.d_law
  have e := hfa.symm.trans hm
  cases e
  exact ⟨fd, fun s v => .of_eq (b [v] rfl), fun base _ _ => all_ok T F⟩
end K68
open PySem PySem.W PyProof.Rows
set_option pp.maxSteps 300 in
set_option maxHeartbeats 0 in
theorem PySem.Challenge.cw_layerask_k68_joining_true_claims_holds : PySem.Challenge.rw_layerask_k68_joining_true_claims.Holds := by
  w_on; o_law; k_head; (case hw => w_witness2)
  k_fill
  refine Dl.walk_DG (l := PySem.Challenge.rw_layerask_k68_joining_true_claims) (x := "_law_script") rfl rfl (fun w h Y => PySem.W.kIn_of Y) ?F
  case F =>
    intro w mg fa h KX G hmg
    refine K68.law_fin ?T hmg
    exact {
      mi_SumAsker := by (refine' Dl.iniT_mk KX G ?a ?k1 ?k2 ?k3 ?k4 ?l ?c ?k ?b; (case a => k_is); (case k1 => k_is); (case k2 => k_is); (case k3 => k_is); (case k4 => k_is); (case l => k_is); (case c => k_is); (case k => k_is); (case b => exact fun _ _ _ _ _ _ us hl => match us, hl with | [_, _, _, _], _ => rfl))
      mi_Join := by (refine' Dl.iniT_mk KX G ?a ?k1 ?k2 ?k3 ?k4 ?l ?c ?k ?b; (case a => k_is); (case k1 => k_is); (case k2 => k_is); (case k3 => k_is); (case k4 => k_is); (case l => k_is); (case c => k_is); (case k => k_is); (case b => exact fun _ _ _ _ _ _ us hl => match us, hl with | [_, _, _, _], _ => rfl))
      mi_JoinAnswerer := by (refine' Dl.iniT_mk KX G ?a ?k1 ?k2 ?k3 ?k4 ?l ?c ?k ?b; (case a => k_is); (case k1 => k_is); (case k2 => k_is); (case k3 => k_is); (case k4 => k_is); (case l => k_is); (case c => k_is); (case k => k_is); (case b => exact fun _ _ _ _ _ _ us hl => match us, hl with | [_, _, _, _], _ => rfl))
      mm_Join_answer := by (refine' Dl.mthT_mk ?a ?k1 ?k2 ?k3 ?k4 ?m1 ?m2 ?l ?c ?k ?b; (case a => k_is); (case k1 => k_is); (case k2 => k_is); (case k3 => k_is); (case k4 => k_is); (case m1 => k_is); (case m2 => k_is); (case l => k_is); (case c => k_is); (case k => k_is); (case b => exact fun _ _ _ _ _ _ us hl => match us, hl with | [_, _], _ => rfl))
      mm_Join_answer_value := by (refine' Dl.mthT_mk ?a ?k1 ?k2 ?k3 ?k4 ?m1 ?m2 ?l ?c ?k ?b; (case a => k_is); (case k1 => k_is); (case k2 => k_is); (case k3 => k_is); (case k4 => k_is); (case m1 => k_is); (case m2 => k_is); (case l => k_is); (case c => k_is); (case k => k_is); (case b => exact fun _ _ _ _ _ _ us hl => match us, hl with | [_, _], _ => rfl))
      mm_Join_throw := by (refine' Dl.mthT_mk ?a ?k1 ?k2 ?k3 ?k4 ?m1 ?m2 ?l ?c ?k ?b; (case a => k_is); (case k1 => k_is); (case k2 => k_is); (case k3 => k_is); (case k4 => k_is); (case m1 => k_is); (case m2 => k_is); (case l => k_is); (case c => k_is); (case k => k_is); (case b => exact fun _ _ _ _ _ _ us hl => match us, hl with | [_, _], _ => rfl))
      mm_Join_wants := by (refine' Dl.mthT_mk ?a ?k1 ?k2 ?k3 ?k4 ?m1 ?m2 ?l ?c ?k ?b; (case a => k_is); (case k1 => k_is); (case k2 => k_is); (case k3 => k_is); (case k4 => k_is); (case m1 => k_is); (case m2 => k_is); (case l => k_is); (case c => k_is); (case k => k_is); (case b => exact fun _ _ _ _ _ _ us hl => match us, hl with | [_], _ => rfl))
      mm_JoinAnswerer_poly := by (refine' Dl.mthT_mk ?a ?k1 ?k2 ?k3 ?k4 ?m1 ?m2 ?l ?c ?k ?b; (case a => k_is); (case k1 => k_is); (case k2 => k_is); (case k3 => k_is); (case k4 => k_is); (case m1 => k_is); (case m2 => k_is); (case l => k_is); (case c => k_is); (case k => k_is); (case b => exact fun _ _ _ _ _ _ us hl => match us, hl with | [_], _ => rfl))
      mm_JoinAnswerer_throw := by (refine' Dl.mthT_mk ?a ?k1 ?k2 ?k3 ?k4 ?m1 ?m2 ?l ?c ?k ?b; (case a => k_is); (case k1 => k_is); (case k2 => k_is); (case k3 => k_is); (case k4 => k_is); (case m1 => k_is); (case m2 => k_is); (case l => k_is); (case c => k_is); (case k => k_is); (case b => exact fun _ _ _ _ _ _ us hl => match us, hl with | [_, _], _ => rfl))
      mm_JoinAnswerer_value := by (refine' Dl.mthT_mk ?a ?k1 ?k2 ?k3 ?k4 ?m1 ?m2 ?l ?c ?k ?b; (case a => k_is); (case k1 => k_is); (case k2 => k_is); (case k3 => k_is); (case k4 => k_is); (case m1 => k_is); (case m2 => k_is); (case l => k_is); (case c => k_is); (case k => k_is); (case b => exact fun _ _ _ _ _ _ us hl => match us, hl with | [_], _ => rfl))
      mm_SumAsker_accept := by (refine' Dl.mthT_mk ?a ?k1 ?k2 ?k3 ?k4 ?m1 ?m2 ?l ?c ?k ?b; (case a => k_is); (case k1 => k_is); (case k2 => k_is); (case k3 => k_is); (case k4 => k_is); (case m1 => k_is); (case m2 => k_is); (case l => k_is); (case c => k_is); (case k => k_is); (case b => exact fun _ _ _ _ _ _ us hl => match us, hl with | [_, _], _ => rfl))
      mm_SumAsker_is_done := by (refine' Dl.mthT_mk ?a ?k1 ?k2 ?k3 ?k4 ?m1 ?m2 ?l ?c ?k ?b; (case a => k_is); (case k1 => k_is); (case k2 => k_is); (case k3 => k_is); (case k4 => k_is); (case m1 => k_is); (case m2 => k_is); (case l => k_is); (case c => k_is); (case k => k_is); (case b => exact fun _ _ _ _ _ _ us hl => match us, hl with | [_], _ => rfl))
      mm_SumAsker_throw := by (refine' Dl.mthT_mk ?a ?k1 ?k2 ?k3 ?k4 ?m1 ?m2 ?l ?c ?k ?b; (case a => k_is); (case k1 => k_is); (case k2 => k_is); (case k3 => k_is); (case k4 => k_is); (case m1 => k_is); (case m2 => k_is); (case l => k_is); (case c => k_is); (case k => k_is); (case b => exact fun _ _ _ _ _ _ us hl => match us, hl with | [_, _], _ => rfl))
      f_claim := by (refine' Dl.fldT_cons ?a ?b ?c ?d ?e ?f ?r; (case a => k_is); (case b => k_is); (case c => k_is); (case d => k_is); (case e => k_is); (case f => k_is); (case r => (exact Dl.fldT_nil)))
      f_claims := by (refine' Dl.fldT_cons ?a ?b ?c ?d ?e ?f ?r; (case a => k_is); (case b => k_is); (case c => k_is); (case d => k_is); (case e => k_is); (case f => k_is); (case r => (exact Dl.fldT_nil)))
      f_degrees := by (refine' Dl.fldT_cons ?a ?b ?c ?d ?e ?f ?r; (case a => k_is); (case b => k_is); (case c => k_is); (case d => k_is); (case e => k_is); (case f => k_is); (case r => (exact Dl.fldT_nil)))
      f_mix := by (refine' Dl.fldT_cons ?a ?b ?c ?d ?e ?f ?r; (case a => k_is); (case b => k_is); (case c => k_is); (case d => k_is); (case e => k_is); (case f => k_is); (case r => (exact Dl.fldT_nil)))
      f_near := by (refine' Dl.fldT_cons ?a ?b ?c ?d ?e ?f ?r; (case a => k_is); (case b => k_is); (case c => k_is); (case d => k_is); (case e => k_is); (case f => k_is); (case r => (exact Dl.fldT_nil)))
      f_next_claim := by (refine' Dl.fldT_cons ?a ?b ?c ?d ?e ?f ?r; (case a => k_is); (case b => k_is); (case c => k_is); (case d => k_is); (case e => k_is); (case f => k_is); (case r => (exact Dl.fldT_nil)))
      f_next_point := by (refine' Dl.fldT_cons ?a ?b ?c ?d ?e ?f ?r; (case a => k_is); (case b => k_is); (case c => k_is); (case d => k_is); (case e => k_is); (case f => k_is); (case r => (exact Dl.fldT_nil)))
      f_p := by (refine' Dl.fldT_cons ?a ?b ?c ?d ?e ?f ?r; (case a => k_is); (case b => k_is); (case c => k_is); (case d => k_is); (case e => k_is); (case f => k_is); (case r => (refine' Dl.fldT_cons ?a ?b ?c ?d ?e ?f ?r; (case a => k_is); (case b => k_is); (case c => k_is); (case d => k_is); (case e => k_is); (case f => k_is); (case r => (refine' Dl.fldT_cons ?a ?b ?c ?d ?e ?f ?r; (case a => k_is); (case b => k_is); (case c => k_is); (case d => k_is); (case e => k_is); (case f => k_is); (case r => (exact Dl.fldT_nil)))))))
      f_points := by (refine' Dl.fldT_cons ?a ?b ?c ?d ?e ?f ?r; (case a => k_is); (case b => k_is); (case c => k_is); (case d => k_is); (case e => k_is); (case f => k_is); (case r => (refine' Dl.fldT_cons ?a ?b ?c ?d ?e ?f ?r; (case a => k_is); (case b => k_is); (case c => k_is); (case d => k_is); (case e => k_is); (case f => k_is); (case r => (exact Dl.fldT_nil)))))
      f_sent := by (refine' Dl.fldT_cons ?a ?b ?c ?d ?e ?f ?r; (case a => k_is); (case b => k_is); (case c => k_is); (case d => k_is); (case e => k_is); (case f => k_is); (case r => (exact Dl.fldT_nil)))
      f_sums := by (refine' Dl.fldT_cons ?a ?b ?c ?d ?e ?f ?r; (case a => k_is); (case b => k_is); (case c => k_is); (case d => k_is); (case e => k_is); (case f => k_is); (case r => (exact Dl.fldT_nil)))
      f_table := by (refine' Dl.fldT_cons ?a ?b ?c ?d ?e ?f ?r; (case a => k_is); (case b => k_is); (case c => k_is); (case d => k_is); (case e => k_is); (case f => k_is); (case r => (exact Dl.fldT_nil)))
      f_throws := by (refine' Dl.fldT_cons ?a ?b ?c ?d ?e ?f ?r; (case a => k_is); (case b => k_is); (case c => k_is); (case d => k_is); (case e => k_is); (case f => k_is); (case r => (exact Dl.fldT_nil)))
      d_point_table := by (refine' Dl.defT_mk KX G ?a ?l ?c ?k ?b; (case a => k_is); (case l => k_is); (case c => k_is); (case k => k_is); (case b => exact fun _ _ _ _ _ _ us hl => match us, hl with | [_, _], _ => rfl))
      d_fold := by (refine' Dl.defT_mk KX G ?a ?l ?c ?k ?b; (case a => k_is); (case l => k_is); (case c => k_is); (case k => k_is); (case b => exact fun _ _ _ _ _ _ us hl => match us, hl with | [_, _, _], _ => rfl))
      d_nearness := by (refine' Dl.defT_mk KX G ?a ?l ?c ?k ?b; (case a => k_is); (case l => k_is); (case c => k_is); (case k => k_is); (case b => exact fun _ _ _ _ _ _ us hl => match us, hl with | [_, _, _], _ => rfl))
      d_power := by (refine' Dl.defT_mk KX G ?a ?l ?c ?k ?b; (case a => k_is); (case l => k_is); (case c => k_is); (case k => k_is); (case b => exact fun _ _ _ _ _ _ us hl => match us, hl with | [_, _, _], _ => rfl))
      d_inverse := by (refine' Dl.defT_mk KX G ?a ?l ?c ?k ?b; (case a => k_is); (case l => k_is); (case c => k_is); (case k => k_is); (case b => exact fun _ _ _ _ _ _ us hl => match us, hl with | [_, _], _ => rfl))
      d_is_number := by (refine' Dl.defT_mk KX G ?a ?l ?c ?k ?b; (case a => k_is); (case l => k_is); (case c => k_is); (case k => k_is); (case b => exact fun _ _ _ _ _ _ us hl => match us, hl with | [_, _], _ => rfl))
      d_weights := by (refine' Dl.defT_mk KX G ?a ?l ?c ?k ?b; (case a => k_is); (case l => k_is); (case c => k_is); (case k => k_is); (case b => exact fun _ _ _ _ _ _ us hl => match us, hl with | [_, _, _], _ => rfl))
      d_value := by (refine' Dl.defT_mk KX G ?a ?l ?c ?k ?b; (case a => k_is); (case l => k_is); (case c => k_is); (case k => k_is); (case b => exact fun _ _ _ _ _ _ us hl => match us, hl with | [_, _, _], _ => rfl))
      d_corners := by (refine' Dl.defT_mk KX G ?a ?l ?c ?k ?b; (case a => k_is); (case l => k_is); (case c => k_is); (case k => k_is); (case b => exact fun _ _ _ _ _ _ us hl => match us, hl with | [_, _], _ => rfl))
      d_mixed := by (refine' Dl.defT_mk KX G ?a ?l ?c ?k ?b; (case a => k_is); (case l => k_is); (case c => k_is); (case k => k_is); (case b => exact fun _ _ _ _ _ _ us hl => match us, hl with | [_, _, _], _ => rfl))
      d_join_answers := by (refine' Dl.defT_mk KX G ?a ?l ?c ?k ?b; (case a => k_is); (case l => k_is); (case c => k_is); (case k => k_is); (case b => exact fun _ _ _ _ _ _ us hl => match us, hl with | [_, _], _ => rfl))
      d__law_stream := by (refine' Dl.defT_mk KX G ?a ?l ?c ?k ?b; (case a => k_is); (case l => k_is); (case c => k_is); (case k => k_is); (case b => exact fun _ _ _ _ _ _ us hl => match us, hl with | [_], _ => rfl))
      d__law_take := by (refine' Dl.defT_mk KX G ?a ?l ?c ?k ?b; (case a => k_is); (case l => k_is); (case c => k_is); (case k => k_is); (case b => exact fun _ _ _ _ _ _ us hl => match us, hl with | [_, _], _ => rfl))
      d__law_number := by (refine' Dl.defT_mk KX G ?a ?l ?c ?k ?b; (case a => k_is); (case l => k_is); (case c => k_is); (case k => k_is); (case b => exact fun _ _ _ _ _ _ us hl => match us, hl with | [_, _], _ => rfl))
      d__law_near := by (refine' Dl.defT_mk KX G ?a ?l ?c ?k ?b; (case a => k_is); (case l => k_is); (case c => k_is); (case k => k_is); (case b => exact fun _ _ _ _ _ _ us hl => match us, hl with | [_, _, _], _ => rfl))
      d__law_corner := by (refine' Dl.defT_mk KX G ?a ?l ?c ?k ?b; (case a => k_is); (case l => k_is); (case c => k_is); (case k => k_is); (case b => exact fun _ _ _ _ _ _ us hl => match us, hl with | [_, _], _ => rfl))
      d__law_value := by (refine' Dl.defT_mk KX G ?a ?l ?c ?k ?b; (case a => k_is); (case l => k_is); (case c => k_is); (case k => k_is); (case b => exact fun _ _ _ _ _ _ us hl => match us, hl with | [_, _, _], _ => rfl))
      d__law_mixed := by (refine' Dl.defT_mk KX G ?a ?l ?c ?k ?b; (case a => k_is); (case l => k_is); (case c => k_is); (case k => k_is); (case b => exact fun _ _ _ _ _ _ us hl => match us, hl with | [_, _, _], _ => rfl))
      d__law_weight := by (refine' Dl.defT_mk KX G ?a ?l ?c ?k ?b; (case a => k_is); (case l => k_is); (case c => k_is); (case k => k_is); (case b => exact fun _ _ _ _ _ _ us hl => match us, hl with | [_, _, _, _], _ => rfl))
      d__law_join_poly := by (refine' Dl.defT_mk KX G ?a ?l ?c ?k ?b; (case a => k_is); (case l => k_is); (case c => k_is); (case k => k_is); (case b => exact fun _ _ _ _ _ _ us hl => match us, hl with | [_, _, _, _, _], _ => rfl))
      d__law_step := by (refine' Dl.defT_mk KX G ?a ?l ?c ?k ?b; (case a => k_is); (case l => k_is); (case c => k_is); (case k => k_is); (case b => exact fun _ _ _ _ _ _ us hl => match us, hl with | [_, _, _], _ => rfl))
      d__law_wrong_steps := by (refine' Dl.defT_mk KX G ?a ?l ?c ?k ?b; (case a => k_is); (case l => k_is); (case c => k_is); (case k => k_is); (case b => exact fun _ _ _ _ _ _ us hl => match us, hl with | [_, _, _], _ => rfl))
      d__law_rounds := by (refine' Dl.defT_mk KX G ?a ?l ?c ?k ?b; (case a => k_is); (case l => k_is); (case c => k_is); (case k => k_is); (case b => exact fun _ _ _ _ _ _ us hl => match us, hl with | [_, _, _, _, _, _, _], _ => rfl))
      d_law := by (refine' Dl.defT_mk KX G ?a ?l ?c ?k ?b; (case a => k_is); (case l => k_is); (case c => k_is); (case k => k_is); (case b => exact fun _ _ _ _ _ _ us hl => match us, hl with | [_], _ => rfl))
      n_abs := by (refine' PySem.W.mg_none_of KX G ?z; (case z => k_is))
      n_all := by (refine' PySem.W.mg_none_of KX G ?z; (case z => k_is))
      n_enumerate := by (refine' PySem.W.mg_none_of KX G ?z; (case z => k_is))
      n_int := by (refine' PySem.W.mg_none_of KX G ?z; (case z => k_is))
      n_isinstance := by (refine' PySem.W.mg_none_of KX G ?z; (case z => k_is))
      n_len := by (refine' PySem.W.mg_none_of KX G ?z; (case z => k_is))
      n_list := by (refine' PySem.W.mg_none_of KX G ?z; (case z => k_is))
      n_range := by (refine' PySem.W.mg_none_of KX G ?z; (case z => k_is))
      n_repr := by (refine' PySem.W.mg_none_of KX G ?z; (case z => k_is))
      n_reversed := by (refine' PySem.W.mg_none_of KX G ?z; (case z => k_is))
      n_sum := by (refine' PySem.W.mg_none_of KX G ?z; (case z => k_is))
      n_tuple := by (refine' PySem.W.mg_none_of KX G ?z; (case z => k_is))
      e_FieldError := by (refine' Dl.errT_mk KX G ?a ?c1 ?c2 ?c3 ?c4 ?c5 ?c6 (Dl.hnos_cons ?f1 Dl.hnos_nil) ?i1 ?i2 ?l ?cc ?k ?b; (case a => k_is); (case c1 => k_is); (case c2 => decide +kernel); (case c3 => k_is); (case c4 => k_is); (case c5 => k_is); (case c6 => k_is); (case f1 => k_is); (case i1 => k_is); (case i2 => k_is); (case l => k_is); (case cc => k_is); (case k => k_is); (case b => exact fun _ _ _ _ _ _ us hl => match us, hl with | [_, _], _ => rfl))
      i_FieldError := by (refine' Dl.initB_mk KX G ?a ?b ?c ?d; (case a => k_is); (case b => k_is); (case c => k_is); (case d => k_is))
      e_TalkError := by (refine' Dl.errT_mk KX G ?a ?c1 ?c2 ?c3 ?c4 ?c5 ?c6 (Dl.hnos_cons ?f1 Dl.hnos_nil) ?i1 ?i2 ?l ?cc ?k ?b; (case a => k_is); (case c1 => k_is); (case c2 => decide +kernel); (case c3 => k_is); (case c4 => k_is); (case c5 => k_is); (case c6 => k_is); (case f1 => k_is); (case i1 => k_is); (case i2 => k_is); (case l => k_is); (case cc => k_is); (case k => k_is); (case b => exact fun _ _ _ _ _ _ us hl => match us, hl with | [_, _], _ => rfl))
      i_TalkError := by (refine' Dl.initB_mk KX G ?a ?b ?c ?d; (case a => k_is); (case b => k_is); (case c => k_is); (case d => k_is))
      g_TalkError := by (refine' Dl.g_mk KX G ?a; (case a => k_is))
      x_TalkError := by (refine' Dl.catT_cons ?a ?b ?c ?d ?e ?f ?g ?r; (case a => k_is); (case b => k_is); (case c => k_is); (case d => k_is); (case e => k_is); (case f => k_is); (case g => decide); (case r => (refine' Dl.catT_cons ?a ?b ?c ?d ?e ?f ?g ?r; (case a => k_is); (case b => k_is); (case c => k_is); (case d => k_is); (case e => k_is); (case f => k_is); (case g => decide); (case r => (exact Dl.catT_nil)))))
      s_TalkError := by (refine' Dl.errSs_cons ?a ⟨?c1, ?c2, ?c3, ?c4, ?c5, ?c6, ?c7, ?c8⟩ (Dl.hnos_cons ?f0 (Dl.hnos_cons ?f1 Dl.hnos_nil)) ?r; (case a => k_is); (case c1 => k_is); (case c2 => k_is); (case c3 => k_is); (case c4 => k_is); (case c5 => k_is); (case c6 => k_is); (case c7 => k_is); (case c8 => k_is); (case f0 => k_is); (case f1 => k_is); (case r => (refine' Dl.errSs_cons ?a ⟨?c1, ?c2, ?c3, ?c4, ?c5, ?c6, ?c7, ?c8⟩ (Dl.hnos_cons ?f0 (Dl.hnos_cons ?f1 Dl.hnos_nil)) ?r; (case a => k_is); (case c1 => k_is); (case c2 => k_is); (case c3 => k_is); (case c4 => k_is); (case c5 => k_is); (case c6 => k_is); (case c7 => k_is); (case c8 => k_is); (case f0 => k_is); (case f1 => k_is); (case r => (exact Dl.errSs_nil)))))
    }
