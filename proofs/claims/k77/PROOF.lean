import PyProof.Rows.All
import Wide.All
import OpenK.AllK
import Wide.FinOn
import HandS.ForMost
import HandS.ForExc
import HandS.Wide
import HandS.EndBits
import HandS.ExcInit
import HandS.IsInst
import HandS.ExcField
import HandS.ExcIs
import KE.KExcIs
import HandS.TryMany
import HandS.Deep
import HandS.Style
import HandS.CallSlots
import HandS.Head0
import HandS.Head1
import HandS.Head2
import HandS.HeadEnd
import HandS.HeadHook1
import KE.GoesMore
import KE.GoesEnum
import KE.SortData
import KE.DatumOrd
import HandS.SortInts
import HandS.NoneIn
import PySem.Challenge.RW_layerask_k77_whole_counts_of_bags
set_option Elab.async false
set_option linter.all false
set_option maxRecDepth 100000
set_option maxHeartbeats 4000000

/-! Data level: values as trees, a store of changing objects, readings lifted to them. -/
namespace Dl
open PySem L2

/-- where the class of this name stands -/
def kcl (K : PySem.W.Frag) (c : String) : Addr := match PySem.W.nsIn K mainGlobals (PySem.Str.ofString c) with
  | some (some (.ref C)) => C
  | _ => 0
theorem ofString_inj {a b : String} : PySem.Str.ofString a = PySem.Str.ofString b ↔ a = b := by
  constructor
  · intro h
    rw [PySem.Str.ofString_eq_toList, PySem.Str.ofString_eq_toList] at h
    have h1 := congrArg (fun s => s.cps.toList) h
    have h2 : a.toList.map Char.toNat = b.toList.map Char.toNat := by simpa using h1
    have h3 : a.toList = b.toList := by
      refine List.map_inj_right (f := Char.toNat) ?_ |>.mp h2
      intro x y e
      exact Char.ext (UInt32.toNat_inj.mp e)
    exact String.ext h3
  · intro h; rw [h]
theorem ofString_beq {a b : String} : (PySem.Str.ofString a == PySem.Str.ofString b) = (a == b) := by
  rw [Bool.eq_iff_iff, beq_iff_eq, beq_iff_eq]
  exact ofString_inj

inductive D where
  | non | bl (b : Bool) | int (i : Int) | str (x : Str) | ty (n : String) | cls (c : String)
  | lst (ds : List D) | tup (ds : List D) | rol (ds : List D) | rot (ds : List D)
  | hnd (k : Nat) | st (k : Nat)
  | exc (a d : Addr) (c : String) (fs : List (String × D))

/-- the drawing state of a law: where it stands (k 0: a list of a list of ints and an int; k 1: a list of ints, the first a place in it) -/
structure LS where
  A : Addr
  c : Addr
  k : Nat
def LS.fp (S : LS) : List Addr := if S.k = 0 then [S.A, S.c] else [S.A]
def LS.ok (S : LS) (H : Hp) : Prop := if S.k = 0 then ∃ (cells : List Int) (seed : Int), H S.A = some (.lst [.ref S.c, .int seed]) ∧ H S.c = some (.lst (cells.map V.int))
  else ∃ (j : Int) (ns : List Int), 1 ≤ j ∧ H S.A = some (.lst ((j :: ns).map V.int))
theorem LS.fr (S : LS) (H H' : Hp) (e : ∀ a ∈ S.fp, H' a = H a) (h : S.ok H) : S.ok H' := by
  unfold LS.ok at *
  unfold LS.fp at e
  by_cases z : S.k = 0
  · rw [if_pos z] at *
    obtain ⟨cells, seed, h1, h2⟩ := h
    exact ⟨cells, seed, by rw [e _ (by simp)]; exact h1, by rw [e _ (by simp)]; exact h2⟩
  · rw [if_neg z] at *
    obtain ⟨j, ns, h0, h1⟩ := h
    exact ⟨j, ns, h0, by rw [e _ (by simp)]; exact h1⟩
/-- what changes -/
inductive MO where
  | lst (ds : List D)
  | ins (C : String) (fs : List (String × D))
  | dead
/-- s: 0 no drawing state yet, 1 there is one, 2 it is opened -/
structure MM where
  M : List MO
  s : Nat
structure Wd where
  F : Hp
  th : List Addr
  S : Option LS

section
variable (K : PySem.W.Frag) (w : Wd)
mutual
def Rep : D → V → Prop
  | .non, v => v = .non
  | .bl b, v => v = .bl b
  | .int i, v => v = .int i
  | .str x, v => v = .str x
  | .ty n, v => v = .ty n
  | .cls c, v => v = .ref (kcl K c)
  | .lst ds, v => ∃ a xs, v = .ref a ∧ w.F a = some (.lst xs) ∧ RepAll ds xs
  | .tup ds, v => ∃ a xs, v = .ref a ∧ w.F a = some (.tup xs) ∧ RepAll ds xs
  | .rol ds, v => ∃ a xs, v = .ref a ∧ SqL K w.F a xs ∧ RepAll ds xs
  | .rot ds, v => ∃ a xs, v = .ref a ∧ SqT K w.F a xs ∧ RepAll ds xs
  | .hnd k, v => ∃ a, v = .ref a ∧ w.th[k]? = some a
  | .st k, v => ∃ S, w.S = some S ∧ S.k = k ∧ v = .ref S.A
  | .exc a d c fs, v => v = .ref a ∧ ∃ xs, w.F d = some (.xd xs) ∧ RepF fs xs
def RepAll : List D → List V → Prop
  | [], vs => vs = []
  | d :: ds, vs => ∃ v r, vs = v :: r ∧ Rep d v ∧ RepAll ds r
def RepF : List (String × D) → List (Str × V) → Prop
  | [], vs => vs = []
  | (f, d) :: ds, vs => ∃ v r, vs = (PySem.Str.ofString f, v) :: r ∧ Rep d v ∧ RepF ds r
end
end

/-- later worlds -/
structure Wd.le (w w' : Wd) : Prop where
  F : ∀ a o, w.F a = some o → w'.F a = some o
  th : ∀ (k : Nat) a, w.th[k]? = some a → w'.th[k]? = some a
  S : ∀ S, w.S = some S → w'.S = some S
theorem Wd.le.refl (w : Wd) : w.le w := ⟨fun _ _ h => h, fun _ _ h => h, fun _ h => h⟩
theorem Wd.le.trans {a b c : Wd} (h : a.le b) (g : b.le c) : a.le c := ⟨fun x o e => g.F x o (h.F x o e), fun k x e => g.th k x (h.th k x e), fun S e => g.S S (h.S S e)⟩

theorem sql_mono {K : PySem.W.Frag} {H H' : Hp} {a : Addr} {xs : List V} (e : ∀ a o, H a = some o → H' a = some o) (h : SqL K H a xs) : SqL K H' a xs := by
  rcases h with (h | ⟨o, h⟩) | h
  · exact .inl (.inl (e _ _ h))
  · exact .inl (.inr ⟨o, e _ _ h⟩)
  · exact .inr h
theorem sqt_mono {K : PySem.W.Frag} {H H' : Hp} {a : Addr} {xs : List V} (e : ∀ a o, H a = some o → H' a = some o) (h : SqT K H a xs) : SqT K H' a xs := by
  rcases h with (h | ⟨o, h⟩) | h
  · exact .inl (.inl (e _ _ h))
  · exact .inl (.inr ⟨o, e _ _ h⟩)
  · exact .inr h
section
variable {K : PySem.W.Frag} {w w' : Wd}
mutual
theorem Rep.mono (l : w.le w') : ∀ (d : D) (v : V), Rep K w d v → Rep K w' d v
  | .non, _, h => h
  | .bl _, _, h => h
  | .int _, _, h => h
  | .str _, _, h => h
  | .ty _, _, h => h
  | .cls _, _, h => h
  | .lst ds, _, h => by
    obtain ⟨a, xs, e, q, r⟩ := h
    exact ⟨a, xs, e, l.F _ _ q, RepAll.mono l ds xs r⟩
  | .tup ds, _, h => by
    obtain ⟨a, xs, e, q, r⟩ := h
    exact ⟨a, xs, e, l.F _ _ q, RepAll.mono l ds xs r⟩
  | .rol ds, _, h => by
    obtain ⟨a, xs, e, q, r⟩ := h
    exact ⟨a, xs, e, sql_mono l.F q, RepAll.mono l ds xs r⟩
  | .rot ds, _, h => by
    obtain ⟨a, xs, e, q, r⟩ := h
    exact ⟨a, xs, e, sqt_mono l.F q, RepAll.mono l ds xs r⟩
  | .hnd k, _, h => by
    obtain ⟨a, e, q⟩ := h
    exact ⟨a, e, l.th _ _ q⟩
  | .st _, _, h => by
    obtain ⟨S, e, q⟩ := h
    exact ⟨S, l.S _ e, q⟩
  | .exc a d c fs, _, h => by
    obtain ⟨e, xs, q, r⟩ := h
    exact ⟨e, xs, l.F _ _ q, RepF.mono l fs xs r⟩
theorem RepAll.mono (l : w.le w') : ∀ (ds : List D) (vs : List V), RepAll K w ds vs → RepAll K w' ds vs
  | [], _, h => h
  | d :: ds, _, h => by
    obtain ⟨v, r, e, a, b⟩ := h
    exact ⟨v, r, e, Rep.mono l d v a, RepAll.mono l ds r b⟩
theorem RepF.mono (l : w.le w') : ∀ (ds : List (String × D)) (vs : List (Str × V)), RepF K w ds vs → RepF K w' ds vs
  | [], _, h => h
  | (f, d) :: ds, _, h => by
    obtain ⟨v, r, e, a, b⟩ := h
    exact ⟨v, r, e, Rep.mono l d v a, RepF.mono l ds r b⟩
end
theorem RepAll.length : ∀ {ds : List D} {vs : List V}, RepAll K w ds vs → vs.length = ds.length
  | [], _, h => by
    have e : _ = [] := h
    subst e; rfl
  | d :: ds, _, h => by
    obtain ⟨v, r, e, a, b⟩ := h
    subst e
    rw [List.length_cons, List.length_cons, RepAll.length b]
theorem RepAll.get : ∀ {ds : List D} {vs : List V} {i : Nat} {d : D}, RepAll K w ds vs → ds[i]? = some d → ∃ v, vs[i]? = some v ∧ Rep K w d v
  | [], _, _, _, _, h => by simp at h
  | d :: ds, _, i, d', h, e => by
    obtain ⟨v, r, rfl, a, b⟩ := h
    cases i with
    | zero => simp at e; subst e; exact ⟨v, rfl, a⟩
    | succ i => exact RepAll.get (i := i) b (by simpa using e)
theorem RepAll.append : ∀ {ds es : List D} {vs us : List V}, RepAll K w ds vs → RepAll K w es us → RepAll K w (ds ++ es) (vs ++ us)
  | [], _, _, _, h, g => by
    have q : _ = [] := h
    subst q; exact g
  | d :: ds, _, _, _, h, g => by
    obtain ⟨v, r, rfl, a, b⟩ := h
    exact ⟨v, _, rfl, a, RepAll.append b g⟩
theorem RepAll.set : ∀ {ds : List D} {vs : List V} {d : D} {v : V} (i : Nat), RepAll K w ds vs → Rep K w d v → RepAll K w (ds.set i d) (vs.set i v)
  | [], _, _, _, _, h, _ => by
    have q : _ = [] := h
    subst q; exact rfl
  | d :: ds, _, d', v', i, h, g => by
    obtain ⟨v, r, rfl, a, b⟩ := h
    cases i with
    | zero => exact ⟨v', r, rfl, g, b⟩
    | succ i => exact ⟨v, _, rfl, a, RepAll.set i b g⟩
theorem RepAll.take : ∀ {ds : List D} {vs : List V} (n : Nat), RepAll K w ds vs → RepAll K w (ds.take n) (vs.take n)
  | [], _, n, h => by
    have q : _ = [] := h
    subst q; simp; exact rfl
  | d :: ds, _, n, h => by
    obtain ⟨v, r, rfl, a, b⟩ := h
    cases n with
    | zero => exact rfl
    | succ n => exact ⟨v, _, rfl, a, RepAll.take n b⟩
theorem RepAll.drop : ∀ {ds : List D} {vs : List V} (n : Nat), RepAll K w ds vs → RepAll K w (ds.drop n) (vs.drop n)
  | [], _, n, h => by
    have q : _ = [] := h
    subst q; simp; exact rfl
  | d :: ds, _, n, h => by
    obtain ⟨v, r, rfl, a, b⟩ := h
    cases n with
    | zero => exact ⟨v, _, rfl, a, b⟩
    | succ n => exact RepAll.drop n b
theorem RepAll.reverse {ds : List D} {vs : List V} (h : RepAll K w ds vs) : RepAll K w ds.reverse vs.reverse := by
  induction ds generalizing vs with
  | nil =>
    have q : vs = [] := h
    subst q; exact rfl
  | cons d ds ih =>
    obtain ⟨v, r, rfl, a, b⟩ := h
    rw [List.reverse_cons, List.reverse_cons]
    exact RepAll.append (ih b) ⟨v, [], rfl, a, rfl⟩
theorem RepF.look : ∀ {ds : List (String × D)} {vs : List (Str × V)} {f : String} {d : D}, RepF K w ds vs → ds.lookup f = some d → ∃ v, vs.lookup (PySem.Str.ofString f) = some v ∧ Rep K w d v
  | [], _, _, _, _, h => by simp at h
  | (g, d) :: ds, _, f, d', h, e => by
    obtain ⟨v, r, rfl, a, b⟩ := h
    rw [List.lookup_cons] at e
    rw [List.lookup_cons, ofString_beq]
    cases hb : f == g with
    | true => rw [hb] at e; simp at e; subst e; exact ⟨v, rfl, a⟩
    | false => rw [hb] at e; exact RepF.look b e
theorem RepF.none : ∀ {ds : List (String × D)} {vs : List (Str × V)} {f : String}, RepF K w ds vs → ds.lookup f = Option.none → vs.lookup (PySem.Str.ofString f) = Option.none
  | [], _, _, h, _ => by
    have q : _ = [] := h
    subst q; rfl
  | (g, d) :: ds, _, f, h, e => by
    obtain ⟨v, r, rfl, a, b⟩ := h
    rw [List.lookup_cons] at e
    rw [List.lookup_cons, ofString_beq]
    cases hb : f == g with
    | true => rw [hb] at e; simp at e
    | false => rw [hb] at e; exact RepF.none b e
theorem RepF.length : ∀ {ds : List (String × D)} {vs : List (Str × V)}, RepF K w ds vs → vs.length = ds.length
  | [], _, h => by
    have e : _ = [] := h
    subst e; rfl
  | (f, d) :: ds, _, h => by
    obtain ⟨v, r, e, a, b⟩ := h
    subst e
    rw [List.length_cons, List.length_cons, RepF.length b]
def putD (f : String) (v : D) : List (String × D) → List (String × D)
  | [] => [(f, v)]
  | (g, x) :: r => if g = f then (g, v) :: r else (g, x) :: putD f v r
theorem RepF.put {f : String} {d : D} {v : V} (g : Rep K w d v) : ∀ {ds : List (String × D)} {vs : List (Str × V)}, RepF K w ds vs → RepF K w (putD f d ds) (putF (PySem.Str.ofString f) v vs)
  | [], _, h => by
    have q : _ = [] := h
    subst q; exact ⟨v, [], rfl, g, rfl⟩
  | (k, d') :: ds, _, h => by
    obtain ⟨u, r, rfl, a, b⟩ := h
    unfold putD putF
    by_cases e : k = f
    · rw [if_pos e, if_pos (ofString_inj.mpr e)]; exact ⟨v, r, by rw [e], g, b⟩
    · rw [if_neg e, if_neg (fun z => e (ofString_inj.mp z))]; exact ⟨u, _, rfl, a, RepF.put g b⟩
end

def ORep (K : PySem.W.Frag) (w : Wd) (H : Hp) (a : Addr) : MO → Prop
  | .lst ds => ∃ xs, H a = some (.lst xs) ∧ RepAll K w ds xs
  | .ins C fs => ∃ dx vs, H a = some (.ins (kcl K C) dx vs) ∧ RepF K w fs vs
  | .dead => ∃ o, H a = some o
theorem ORep.mono {K : PySem.W.Frag} {w w' : Wd} {H H' : Hp} {a : Addr} (l : w.le w') (e : H' a = H a) : ∀ {o : MO}, ORep K w H a o → ORep K w' H' a o
  | .lst ds, h => by
    obtain ⟨xs, q, r⟩ := h
    exact ⟨xs, e.trans q, RepAll.mono l _ _ r⟩
  | .ins C fs, h => by
    obtain ⟨dx, vs, q, r⟩ := h
    exact ⟨dx, vs, e.trans q, RepF.mono l _ _ r⟩
  | .dead, h => by
    obtain ⟨o, q⟩ := h
    exact ⟨o, e.trans q⟩
theorem ORep.there {K : PySem.W.Frag} {w : Wd} {H : Hp} {a : Addr} : ∀ {o : MO}, ORep K w H a o → ∃ o, H a = Option.some o
  | .lst _, ⟨_, q, _⟩ => ⟨_, q⟩
  | .ins _ _, ⟨_, _, q, _⟩ => ⟨_, q⟩
  | .dead, h => h
/-- the heap bears the world and the store -/
structure HRep (K : PySem.W.Frag) (w : Wd) (m : MM) (H : Hp) : Prop where
  ext : ∀ a o, w.F a = some o → H a = some o
  len : w.th.length = m.M.length
  nd : w.th.Nodup
  obj : ∀ (k : Nat) a o, w.th[k]? = some a → m.M[k]? = some o → ORep K w H a o
  thF : ∀ (k : Nat) a o, w.th[k]? = some a → m.M[k]? = some o → o ≠ .dead → w.F a = none
  ls : m.s = 1 → ∀ S, w.S = some S → S.ok H ∧ ∀ a ∈ S.fp, w.F a = none ∧ a ∉ w.th ∧ ∃ o, H a = some o
  flag : (m.s = 0 → w.S = none) ∧ (m.s = 1 → w.S.isSome = true)

abbrev Env := List (Option D)
abbrev XP := String → List (String × D) → MM → Prop
abbrev DE := Env → MM → (D → MM → Prop) → XP → Prop
abbrev DA := Env → MM → (List D → MM → Prop) → XP → Prop
abbrev DT := Env → MM → (Bool → MM → Prop) → XP → Prop
structure DN where
  nx : Env → MM → Prop
  rt : D → MM → Prop
  bk : Env → MM → Prop := fun _ _ => False
  ct : Env → MM → Prop := fun _ _ => False
def Slots (K : PySem.W.Frag) (w : Wd) (σ : St) (ρ : Env) : Prop := σ.length = ρ.length ∧ ∀ (i : Nat) d, ρ[i]? = some (some d) → ∃ v, σ[i]? = some (some v) ∧ Rep K w d v
theorem Slots.mono {K : PySem.W.Frag} {w w' : Wd} {σ : St} {ρ : Env} (l : w.le w') (h : Slots K w σ ρ) : Slots K w' σ ρ := ⟨h.1, fun i d e => let ⟨v, a, b⟩ := h.2 i d e; ⟨v, a, Rep.mono l _ _ b⟩⟩
theorem Slots.set {K : PySem.W.Frag} {w : Wd} {σ : St} {ρ : Env} {d : D} {v : V} (i : Nat) (h : Slots K w σ ρ) (r : Rep K w d v) : Slots K w (σ.set i (some v)) (ρ.set i (some d)) := by
  refine ⟨by rw [List.length_set, List.length_set]; exact h.1, fun j d' e => ?_⟩
  by_cases hj : i = j
  · subst hj
    have hl : i < ρ.length := by
      rcases Nat.lt_or_ge i ρ.length with q | q
      · exact q
      · rw [List.getElem?_eq_none (by simpa using q)] at e; cases e
    rw [List.getElem?_set_self hl] at e
    cases e
    exact ⟨v, by rw [List.getElem?_set_self (by rw [h.1]; exact hl)], r⟩
  · rw [List.getElem?_set_ne hj] at e
    obtain ⟨u, a, b⟩ := h.2 j d' e
    exact ⟨u, by rw [List.getElem?_set_ne hj]; exact a, b⟩
theorem Slots.wipe {K : PySem.W.Frag} {w : Wd} {σ : St} {ρ : Env} (h : Slots K w σ ρ) (i : Nat) : Slots K w (σ.set i none) (ρ.set i none) := by
  refine ⟨by rw [List.length_set, List.length_set]; exact h.1, fun j d' e => ?_⟩
  by_cases hj : i = j
  · subst hj
    by_cases hl : i < ρ.length
    · rw [List.getElem?_set_self hl] at e; cases e
    · rw [List.getElem?_eq_none (by simpa using hl)] at e; cases e
  · rw [List.getElem?_set_ne hj] at e
    obtain ⟨u, a, b⟩ := h.2 j d' e
    exact ⟨u, by rw [List.getElem?_set_ne hj]; exact a, b⟩

def XLift (K : PySem.W.Frag) (w : Wd) (E : WX) (σ : St) (Ψ : XP) : Prop := ∀ C fs m' w' H' d xs, w.le w' → HRep K w' m' H' → w'.F d = some (.xd xs) → RepF K w' fs xs → Ψ C fs m' → E (.ref (kcl K C)) (some d) σ H'
theorem XLift.mono {K : PySem.W.Frag} {w w' : Wd} {E : WX} {σ : St} {Ψ : XP} (l : w.le w') (h : XLift K w E σ Ψ) : XLift K w' E σ Ψ := fun C fs m' w2 H' d xs l2 a b c q => h C fs m' w2 H' d xs (l.trans l2) a b c q
def VLift (K : PySem.W.Frag) (w : Wd) (Q : VK) (Φ : D → MM → Prop) : Prop := ∀ d m' w' H' v, w.le w' → HRep K w' m' H' → Rep K w' d v → Φ d m' → Q v H'
theorem VLift.mono {K : PySem.W.Frag} {w w' : Wd} {Q : VK} {Φ : D → MM → Prop} (l : w.le w') (h : VLift K w Q Φ) : VLift K w' Q Φ := fun d m' w2 H' v l2 a b c => h d m' w2 H' v (l.trans l2) a b c
def SLift (K : PySem.W.Frag) (w : Wd) (Q : St → Hp → Prop) (Φ : Env → MM → Prop) : Prop := ∀ ρ m' w' H' σ, w.le w' → HRep K w' m' H' → Slots K w' σ ρ → Φ ρ m' → Q σ H'
theorem SLift.mono {K : PySem.W.Frag} {w w' : Wd} {Q : St → Hp → Prop} {Φ : Env → MM → Prop} (l : w.le w') (h : SLift K w Q Φ) : SLift K w' Q Φ := fun d m' w2 H' v l2 a b c => h d m' w2 H' v (l.trans l2) a b c
structure NLift (K : PySem.W.Frag) (w : Wd) (D : Ends) (N : DN) : Prop where
  nx : SLift K w D.nx N.nx
  rt : VLift K w D.rt N.rt
  bk : SLift K w D.bk N.bk
  ct : SLift K w D.ct N.ct
theorem NLift.mono {K : PySem.W.Frag} {w w' : Wd} {D : Ends} {N : DN} (l : w.le w') (h : NLift K w D N) : NLift K w' D N := ⟨h.nx.mono l, h.rt.mono l, h.bk.mono l, h.ct.mono l⟩

abbrev XS := Env → XP
def SX (K : PySem.W.Frag) (w : Wd) (E : WX) (Ψ : XS) : Prop := ∀ ρ σ w1, w.le w1 → Slots K w1 σ ρ → XLift K w1 E σ (Ψ ρ)
theorem SX.mono {K : PySem.W.Frag} {w w' : Wd} {E : WX} {Ψ : XS} (l : w.le w') (h : SX K w E Ψ) : SX K w' E Ψ := fun ρ σ w1 l1 s => h ρ σ w1 (l.trans l1) s
structure At (K : PySem.W.Frag) (E : WX) (w : Wd) (σ : St) (H : Hp) (ρ : Env) (m : MM) (Ψ : XP) : Prop where
  h : HRep K w m H
  s : Slots K w σ ρ
  x : XLift K w E σ Ψ
theorem At.to {K : PySem.W.Frag} {E : WX} {w w' : Wd} {σ : St} {H H' : Hp} {ρ : Env} {m m' : MM} {Ψ : XP} (a : At K E w σ H ρ m Ψ) (l : w.le w') (h : HRep K w' m' H') : At K E w' σ H' ρ m' Ψ := ⟨h, a.s.mono l, a.x.mono l⟩
structure AtS (K : PySem.W.Frag) (E : WX) (w : Wd) (σ : St) (H : Hp) (ρ : Env) (m : MM) (Ψ : XS) : Prop where
  h : HRep K w m H
  s : Slots K w σ ρ
  x : SX K w E Ψ
theorem AtS.to {K : PySem.W.Frag} {E : WX} {w w' : Wd} {σ : St} {H H' : Hp} {ρ : Env} {m m' : MM} {Ψ : XS} (a : AtS K E w σ H ρ m Ψ) (l : w.le w') (h : HRep K w' m' H') : AtS K E w' σ H' ρ m' Ψ := ⟨h, a.s.mono l, a.x.mono l⟩
theorem AtS.at {K : PySem.W.Frag} {E : WX} {w : Wd} {σ : St} {H : Hp} {ρ : Env} {m : MM} {Ψ : XS} (a : AtS K E w σ H ρ m Ψ) : At K E w σ H ρ m (Ψ ρ) := ⟨a.h, a.s, a.x ρ σ w (Wd.le.refl w) a.s⟩
abbrev DS := DN → XS → Env → MM → Prop
def lift (K : PySem.W.Frag) (E : WX) (W : DE) : TE := fun σ H Q => ∃ w ρ m Ψ Φ, At K E w σ H ρ m Ψ ∧ VLift K w Q Φ ∧ W ρ m Φ Ψ
def liftA (K : PySem.W.Frag) (E : WX) (W : DA) : TA := fun σ H Q => ∃ w ρ m Ψ Φ, At K E w σ H ρ m Ψ ∧ (∀ ds m' w' H' vs, w.le w' → HRep K w' m' H' → RepAll K w' ds vs → Φ ds m' → Q vs H') ∧ W ρ m Φ Ψ
def liftT (K : PySem.W.Frag) (E : WX) (W : DT) : TT := fun σ H Q => ∃ w ρ m Ψ Φ, At K E w σ H ρ m Ψ ∧ (∀ b m' w' H', w.le w' → HRep K w' m' H' → Φ b m' → Q b H') ∧ W ρ m Φ Ψ
def liftS (K : PySem.W.Frag) (E : WX) (W : DS) : TS := fun D σ H => ∃ w ρ m Ψ N, AtS K E w σ H ρ m Ψ ∧ NLift K w D N ∧ W N Ψ ρ m

/-! ### judgements -/
abbrev JE (X : Cx) (E : WX) (e : Expr) (W : DE) : Prop := PE X e (lift X.K E W)
abbrev JA (X : Cx) (E : WX) (es : List Expr) (W : DA) : Prop := PA X es (liftA X.K E W)
abbrev JT (X : Cx) (E : WX) (e : Expr) (W : DT) : Prop := PT X e (liftT X.K E W)
abbrev JW (X : Cx) (E : WX) (e : Expr) (W : DT) : Prop := PW X e (liftT X.K E W)
abbrev JS (X : Cx) (E : WX) (st : Stmt) (W : DS) : Prop := PS X st (liftS X.K E W)
abbrev JSs (X : Cx) (E : WX) (st : List Stmt) (W : DS) : Prop := PSs X st (liftS X.K E W)
theorem PE.imp {X : Cx} {e : Expr} {t t' : TE} (h : PE X e t) (i : ∀ σ H Q, t' σ H Q → t σ H Q) : PE X e t' := ⟨fun pins s σ H Q I q => h.run pins s σ H Q I (i σ H Q q)⟩
theorem PA.imp {X : Cx} {e : List Expr} {t t' : TA} (h : PA X e t) (i : ∀ σ H Q, t' σ H Q → t σ H Q) : PA X e t' := ⟨fun pos pins s σ H Q I q => h.run pos pins s σ H Q I (i σ H Q q)⟩
theorem PT.imp {X : Cx} {e : Expr} {t t' : TT} (h : PT X e t) (i : ∀ σ H Q, t' σ H Q → t σ H Q) : PT X e t' := ⟨fun pins s σ H Q I q => h.run pins s σ H Q I (i σ H Q q)⟩
theorem PW.imp {X : Cx} {e : Expr} {t t' : TT} (h : PW X e t) (i : ∀ σ H Q, t' σ H Q → t σ H Q) : PW X e t' := ⟨fun wh pins s σ H Q I q => h.run wh pins s σ H Q I (i σ H Q q)⟩
theorem PS.imp {X : Cx} {e : Stmt} {t t' : TS} (h : PS X e t) (i : ∀ D σ H, t' D σ H → t D σ H) : PS X e t' := ⟨fun pins s σ H D I q => h.run pins s σ H D I (i D σ H q)⟩
theorem PSs.imp {X : Cx} {e : List Stmt} {t t' : TS} (h : PSs X e t) (i : ∀ D σ H, t' D σ H → t D σ H) : PSs X e t' := ⟨fun pins s σ H D I q => h.run pins s σ H D I (i D σ H q)⟩
end Dl

namespace Dl
open PySem L2
section
variable {K : PySem.W.Frag} {w w' : Wd} {m m' : MM} {H H' : Hp} {p a : Addr} {ho : HO} {k : Nat}

theorem ORep.ex (e : ∀ a o, H a = some o → H' a = some o) : ∀ {o : MO}, ORep K w H a o → ORep K w H' a o
  | .lst ds, ⟨xs, q, r⟩ => ⟨xs, e _ _ q, r⟩
  | .ins C fs, ⟨dx, vs, q, r⟩ => ⟨dx, vs, e _ _ q, r⟩
  | .dead, ⟨o, q⟩ => ⟨o, e _ _ q⟩
theorem HRep.ex (h : HRep K w m H) (e : ∀ a o, H a = some o → H' a = some o) : HRep K w m H' where
  ext := fun a o q => e a o (h.ext a o q)
  len := h.len
  nd := h.nd
  obj := fun k a o q1 q2 => (h.obj k a o q1 q2).ex e
  thF := h.thF
  ls := fun s1 S q => by
    obtain ⟨h1, h2⟩ := h.ls s1 S q
    refine ⟨S.fr H H' (fun a ha => ?_) h1, fun a ha => ?_⟩
    · obtain ⟨_, _, o, ho⟩ := h2 a ha
      rw [ho, e a o ho]
    · obtain ⟨q1, q2, o, ho⟩ := h2 a ha
      exact ⟨q1, q2, o, e a o ho⟩
  flag := h.flag
theorem HRep.thO (h : HRep K w m H) {k : Nat} {a : Addr} (e : w.th[k]? = some a) : ∃ o, m.M[k]? = some o ∧ ORep K w H a o := by
  have hk : k < w.th.length := (List.getElem?_eq_some_iff.mp e).1
  rw [h.len] at hk
  exact ⟨m.M[k], List.getElem?_eq_getElem hk, h.obj k a _ e (List.getElem?_eq_getElem hk)⟩
theorem HRep.thH (h : HRep K w m H) {a : Addr} (e : a ∈ w.th) : ∃ o, H a = some o := by
  obtain ⟨k, hk, rfl⟩ := List.mem_iff_getElem.mp e
  obtain ⟨o, _, q⟩ := h.thO (List.getElem?_eq_getElem hk)
  exact q.there
theorem HRep.nof (h : HRep K w m H) (hp : H p = none) : w.F p = none := by
  cases q : w.F p with
  | none => rfl
  | some o => rw [h.ext p o q] at hp; cases hp
theorem HRep.not (h : HRep K w m H) (hp : H p = none) : p ∉ w.th := fun z => by
  obtain ⟨o, q⟩ := h.thH z
  rw [hp] at q; cases q

/-- a new frozen object -/
def Wd.put (w : Wd) (p : Addr) (ho : HO) : Wd := ⟨upd w.F p ho, w.th, w.S⟩
theorem Wd.le_put (h : w.F p = none) : w.le (w.put p ho) := ⟨fun a o e => by show upd w.F p ho a = some o; rw [upd_ne (ne_of_none e h)]; exact e, fun _ _ e => e, fun _ e => e⟩
theorem ex_new (hp : H p = none) : ∀ a o, H a = some o → upd H p ho a = some o := fun a o e => by rw [upd_ne (ne_of_none e hp)]; exact e
theorem HRep.put (h : HRep K w m H) (hp : H p = none) : HRep K (w.put p ho) m (upd H p ho) where
  ext := fun a o q => by
    have q : upd w.F p ho a = some o := q
    by_cases e : a = p
    · subst e; rw [upd_same] at q ⊢; exact q
    · rw [upd_ne e] at q ⊢; exact h.ext a o q
  len := h.len
  nd := h.nd
  obj := fun k a o q1 q2 => by
    have z := h.obj k a o q1 q2
    have ne : a ≠ p := fun e => h.not hp (by rw [← e]; exact List.mem_of_getElem? q1)
    exact z.mono (Wd.le_put (h.nof hp)) (upd_ne ne)
  thF := fun k a o q1 q2 q3 => by
    have ne : a ≠ p := fun e => h.not hp (by rw [← e]; exact List.mem_of_getElem? q1)
    show upd w.F p ho a = none
    rw [upd_ne ne]; exact h.thF k a o q1 q2 q3
  ls := fun s1 S q => by
    obtain ⟨h1, h2⟩ := h.ls s1 S q
    have ne : ∀ a ∈ S.fp, a ≠ p := fun a ha e => by
      obtain ⟨_, _, o, ho⟩ := h2 a ha
      rw [e, hp] at ho; cases ho
    refine ⟨S.fr H _ (fun a ha => upd_ne (ne a ha)) h1, fun a ha => ?_⟩
    obtain ⟨q1, q2, o, q3⟩ := h2 a ha
    refine ⟨?_, q2, o, by rw [upd_ne (ne a ha)]; exact q3⟩
    show upd w.F p ho a = none
    rw [upd_ne (ne a ha)]; exact q1
  flag := h.flag
theorem rep_put_lst {ds : List D} {xs : List V} (h : HRep K w m H) (hp : H p = none) (r : RepAll K w ds xs) : Rep K (w.put p (.lst xs)) (.lst ds) (.ref p) :=
  ⟨p, xs, rfl, upd_same, RepAll.mono (Wd.le_put (h.nof hp)) _ _ r⟩
theorem rep_put_tup {ds : List D} {xs : List V} (h : HRep K w m H) (hp : H p = none) (r : RepAll K w ds xs) : Rep K (w.put p (.tup xs)) (.tup ds) (.ref p) :=
  ⟨p, xs, rfl, upd_same, RepAll.mono (Wd.le_put (h.nof hp)) _ _ r⟩

/-- a new changing object -/
def Wd.add (w : Wd) (p : Addr) : Wd := ⟨w.F, w.th ++ [p], w.S⟩
def MM.push (m : MM) (o : MO) : MM := ⟨m.M ++ [o], m.s⟩
theorem Wd.le_add : w.le (w.add p) := ⟨fun _ _ e => e, fun k a e => by
  show (w.th ++ [p])[k]? = some a
  rw [List.getElem?_append_left (List.getElem?_eq_some_iff.mp e).1]; exact e, fun _ e => e⟩
theorem HRep.add {o : MO} (h : HRep K w m H) (hp : H p = none) (ob : ORep K (w.add p) (upd H p ho) p o) : HRep K (w.add p) (m.push o) (upd H p ho) where
  ext := fun a o q => ex_new hp a o (h.ext a o q)
  len := by show (w.th ++ [p]).length = (m.M ++ [o]).length; rw [List.length_append, List.length_append, h.len]; rfl
  nd := by
    show (w.th ++ [p]).Nodup
    rw [List.nodup_append]
    refine ⟨h.nd, by simp, fun a ha b hb e => ?_⟩
    have e2 : b = p := by simpa using hb
    subst e2; subst e
    exact h.not hp ha
  obj := fun k a o' q1 q2 => by
    have q1 : (w.th ++ [p])[k]? = some a := q1
    have q2 : (m.M ++ [o])[k]? = some o' := q2
    rcases Nat.lt_or_ge k w.th.length with hk | hk
    · rw [List.getElem?_append_left hk] at q1
      rw [List.getElem?_append_left (by rw [← h.len]; exact hk)] at q2
      have ne : a ≠ p := fun e => h.not hp (by rw [← e]; exact List.mem_of_getElem? q1)
      exact (h.obj k a o' q1 q2).mono Wd.le_add (upd_ne ne)
    · rw [List.getElem?_append_right hk] at q1
      rw [List.getElem?_append_right (by rw [← h.len]; exact hk)] at q2
      have hk2 : k = w.th.length := by
        have z := (List.getElem?_eq_some_iff.mp q1).1
        simp at z; omega
      subst hk2
      rw [Nat.sub_self] at q1
      rw [h.len, Nat.sub_self] at q2
      simp at q1 q2
      subst q1; subst q2
      exact ob
  thF := fun k a o' q1 q2 q3 => by
    have q1 : (w.th ++ [p])[k]? = some a := q1
    have q2 : (m.M ++ [o])[k]? = some o' := q2
    show w.F a = none
    rcases Nat.lt_or_ge k w.th.length with hk | hk
    · rw [List.getElem?_append_left hk] at q1
      rw [List.getElem?_append_left (by rw [← h.len]; exact hk)] at q2
      exact h.thF k a o' q1 q2 q3
    · rw [List.getElem?_append_right hk] at q1
      have z : a ∈ [p] := List.mem_of_getElem? q1
      have e : a = p := by simpa using z
      rw [e]; exact h.nof hp
  ls := fun s1 S q => by
    obtain ⟨h1, h2⟩ := h.ls s1 S q
    have ne : ∀ a ∈ S.fp, a ≠ p := fun a ha e => by
      obtain ⟨_, _, o, ho⟩ := h2 a ha
      rw [e, hp] at ho; cases ho
    refine ⟨S.fr H _ (fun a ha => upd_ne (ne a ha)) h1, fun a ha => ?_⟩
    obtain ⟨q1, q2, o, q3⟩ := h2 a ha
    refine ⟨q1, ?_, o, by rw [upd_ne (ne a ha)]; exact q3⟩
    show a ∉ w.th ++ [p]
    simp only [List.mem_append, List.mem_singleton, not_or]
    exact ⟨q2, ne a ha⟩
  flag := h.flag
theorem rep_add (h : HRep K w m H) : Rep K (w.add p) (.hnd m.M.length) (.ref p) := ⟨p, rfl, by
  show (w.th ++ [p])[m.M.length]? = some p
  rw [← h.len, List.getElem?_append_right (Nat.le_refl _)]; simp⟩

/-- a changing object is written -/
theorem HRep.wr {o o' : MO} (h : HRep K w m H) (e : w.th[k]? = some a) (eo : m.M[k]? = some o) (hd : o ≠ .dead) (ob : ORep K w (upd H a ho) a o') : HRep K w ⟨m.M.set k o', m.s⟩ (upd H a ho) where
  ext := fun b u q => by
    have ne : b ≠ a := fun z => by rw [z, h.thF k a o e eo hd] at q; cases q
    rw [upd_ne ne]; exact h.ext b u q
  len := by show w.th.length = (m.M.set k o').length; rw [List.length_set]; exact h.len
  nd := h.nd
  obj := fun j b u q1 q2 => by
    have q2 : (m.M.set k o')[j]? = some u := q2
    by_cases hj : k = j
    · subst hj
      rw [e] at q1; cases q1
      rw [List.getElem?_set_self (List.getElem?_eq_some_iff.mp eo).1] at q2
      cases q2; exact ob
    · rw [List.getElem?_set_ne hj] at q2
      have ne : b ≠ a := fun z => hj (by
        subst z
        obtain ⟨k1, k2⟩ := List.getElem?_eq_some_iff.mp e
        obtain ⟨j1, j2⟩ := List.getElem?_eq_some_iff.mp q1
        exact (List.getElem_inj h.nd).mp (k2.trans j2.symm))
      exact (h.obj j b u q1 q2).mono (Wd.le.refl w) (upd_ne ne)
  thF := fun j b u q1 q2 q3 => by
    have q2 : (m.M.set k o')[j]? = some u := q2
    by_cases hj : k = j
    · subst hj
      rw [e] at q1; cases q1
      exact h.thF k a o e eo hd
    · rw [List.getElem?_set_ne hj] at q2
      exact h.thF j b u q1 q2 q3
  ls := fun s1 S q => by
    obtain ⟨h1, h2⟩ := h.ls s1 S q
    have ne : ∀ b ∈ S.fp, b ≠ a := fun b hb z => (h2 b hb).2.1 (by rw [z]; exact List.mem_of_getElem? e)
    refine ⟨S.fr H _ (fun b hb => upd_ne (ne b hb)) h1, fun b hb => ?_⟩
    obtain ⟨q1, q2, o, q3⟩ := h2 b hb
    exact ⟨q1, q2, o, by rw [upd_ne (ne b hb)]; exact q3⟩
  flag := h.flag
/-- a changing list is frozen -/
theorem HRep.frz {ds : List D} (h : HRep K w m H) (e : w.th[k]? = some a) (eo : m.M[k]? = some (.lst ds)) : ∃ xs, w.F a = none ∧ H a = some (.lst xs) ∧ RepAll K w ds xs ∧ HRep K (w.put a (.lst xs)) ⟨m.M.set k .dead, m.s⟩ H := by
  obtain ⟨xs, hx, r⟩ := h.obj k a _ e eo
  have fa := h.thF k a _ e eo (fun z => by cases z)
  refine ⟨xs, fa, hx, r, ?_⟩
  have le := Wd.le_put (ho := .lst xs) fa
  have nea : ∀ {j : Nat} {b : Addr}, w.th[j]? = some b → b = a → k = j := fun {j b} q1 z => by
    subst z
    obtain ⟨k1, k2⟩ := List.getElem?_eq_some_iff.mp e
    obtain ⟨j1, j2⟩ := List.getElem?_eq_some_iff.mp q1
    exact (List.getElem_inj h.nd).mp (k2.trans j2.symm)
  exact {
    ext := fun b u q => by
      have q : upd w.F a (.lst xs) b = some u := q
      by_cases z : b = a
      · subst z; rw [upd_same] at q; cases q; exact hx
      · rw [upd_ne z] at q; exact h.ext b u q
    len := by show w.th.length = (m.M.set k .dead).length; rw [List.length_set]; exact h.len
    nd := h.nd
    obj := fun j b u q1 q2 => by
      have q2 : (m.M.set k .dead)[j]? = some u := q2
      by_cases hj : k = j
      · subst hj
        have q1 : w.th[k]? = some b := q1
        rw [e] at q1; cases q1
        rw [List.getElem?_set_self (List.getElem?_eq_some_iff.mp eo).1] at q2
        cases q2; exact ⟨_, hx⟩
      · rw [List.getElem?_set_ne hj] at q2
        exact (h.obj j b u q1 q2).mono le rfl
    thF := fun j b u q1 q2 q3 => by
      have q2 : (m.M.set k .dead)[j]? = some u := q2
      have q1 : w.th[j]? = some b := q1
      by_cases hj : k = j
      · subst hj
        rw [List.getElem?_set_self (List.getElem?_eq_some_iff.mp eo).1] at q2
        cases q2; exact absurd rfl q3
      · rw [List.getElem?_set_ne hj] at q2
        show upd w.F a (.lst xs) b = none
        rw [upd_ne (fun z => hj (nea q1 z))]
        exact h.thF j b u q1 q2 q3
    ls := fun s1 S q => by
      obtain ⟨h1, h2⟩ := h.ls s1 S q
      refine ⟨h1, fun b hb => ?_⟩
      obtain ⟨q1, q2, o, q3⟩ := h2 b hb
      refine ⟨?_, q2, o, q3⟩
      show upd w.F a (.lst xs) b = none
      rw [upd_ne (fun z => q2 (by rw [z]; exact List.mem_of_getElem? e))]; exact q1
    flag := h.flag }
/-- the last objects are let go -/
def Wd.cut (w : Wd) (n : Nat) : Wd := ⟨w.F, w.th.take n, w.S⟩
def MM.cut (m : MM) (n : Nat) : MM := ⟨m.M.take n, m.s⟩
mutual
def clD (n : Nat) : D → Bool
  | .hnd k => decide (k < n)
  | .lst ds => clAll n ds
  | .tup ds => clAll n ds
  | .rol ds => clAll n ds
  | .rot ds => clAll n ds
  | .exc _ _ _ fs => clF n fs
  | _ => true
def clAll (n : Nat) : List D → Bool
  | [] => true
  | d :: ds => clD n d && clAll n ds
def clF (n : Nat) : List (String × D) → Bool
  | [] => true
  | (_, d) :: ds => clD n d && clF n ds
end
def clO (n : Nat) : MO → Bool
  | .lst ds => clAll n ds
  | .ins _ fs => clF n fs
  | .dead => true
mutual
theorem Rep.cl : ∀ (d : D) (v : V), Rep K w d v → clD w.th.length d = true
  | .non, _, _ => rfl
  | .bl _, _, _ => rfl
  | .int _, _, _ => rfl
  | .str _, _, _ => rfl
  | .ty _, _, _ => rfl
  | .cls _, _, _ => rfl
  | .st _, _, _ => rfl
  | .lst ds, _, ⟨_, xs, _, _, r⟩ => RepAll.cl ds xs r
  | .tup ds, _, ⟨_, xs, _, _, r⟩ => RepAll.cl ds xs r
  | .rol ds, _, ⟨_, xs, _, _, r⟩ => RepAll.cl ds xs r
  | .rot ds, _, ⟨_, xs, _, _, r⟩ => RepAll.cl ds xs r
  | .exc _ _ _ fs, _, ⟨_, xs, _, r⟩ => RepF.cl fs xs r
  | .hnd k, _, ⟨a, _, q⟩ => by
    show decide (k < w.th.length) = true
    exact decide_eq_true (List.getElem?_eq_some_iff.mp q).1
theorem RepAll.cl : ∀ (ds : List D) (vs : List V), RepAll K w ds vs → clAll w.th.length ds = true
  | [], _, _ => rfl
  | d :: ds, _, ⟨v, r, _, a, b⟩ => by
    show (clD _ d && clAll _ ds) = true
    rw [Rep.cl d v a, RepAll.cl ds r b]; rfl
theorem RepF.cl : ∀ (ds : List (String × D)) (vs : List (Str × V)), RepF K w ds vs → clF w.th.length ds = true
  | [], _, _ => rfl
  | (f, d) :: ds, _, ⟨v, r, _, a, b⟩ => by
    show (clD _ d && clF _ ds) = true
    rw [Rep.cl d v a, RepF.cl ds r b]; rfl
end
mutual
theorem Rep.cut {n : Nat} : ∀ (d : D) (v : V), Rep K w d v → clD n d = true → Rep K (w.cut n) d v
  | .non, _, h, _ => h
  | .bl _, _, h, _ => h
  | .int _, _, h, _ => h
  | .str _, _, h, _ => h
  | .ty _, _, h, _ => h
  | .cls _, _, h, _ => h
  | .st _, _, h, _ => h
  | .lst ds, _, ⟨a, xs, e, q, r⟩, c => ⟨a, xs, e, q, RepAll.cut ds xs r c⟩
  | .tup ds, _, ⟨a, xs, e, q, r⟩, c => ⟨a, xs, e, q, RepAll.cut ds xs r c⟩
  | .rol ds, _, ⟨a, xs, e, q, r⟩, c => ⟨a, xs, e, q, RepAll.cut ds xs r c⟩
  | .rot ds, _, ⟨a, xs, e, q, r⟩, c => ⟨a, xs, e, q, RepAll.cut ds xs r c⟩
  | .exc _ _ _ fs, _, ⟨e, xs, q, r⟩, c => ⟨e, xs, q, RepF.cut fs xs r c⟩
  | .hnd k, _, ⟨a, e, q⟩, c => ⟨a, e, by
    have c : decide (k < n) = true := c
    have c := of_decide_eq_true c
    show (w.th.take n)[k]? = some a
    rw [List.getElem?_take_of_lt c]; exact q⟩
theorem RepAll.cut {n : Nat} : ∀ (ds : List D) (vs : List V), RepAll K w ds vs → clAll n ds = true → RepAll K (w.cut n) ds vs
  | [], _, h, _ => h
  | d :: ds, _, ⟨v, r, e, a, b⟩, c => by
    have c : (clD n d && clAll n ds) = true := c
    rw [Bool.and_eq_true] at c
    exact ⟨v, r, e, Rep.cut d v a c.1, RepAll.cut ds r b c.2⟩
theorem RepF.cut {n : Nat} : ∀ (ds : List (String × D)) (vs : List (Str × V)), RepF K w ds vs → clF n ds = true → RepF K (w.cut n) ds vs
  | [], _, h, _ => h
  | (f, d) :: ds, _, ⟨v, r, e, a, b⟩, c => by
    have c : (clD n d && clF n ds) = true := c
    rw [Bool.and_eq_true] at c
    exact ⟨v, r, e, Rep.cut d v a c.1, RepF.cut ds r b c.2⟩
end
theorem ORep.cut {n : Nat} : ∀ {o : MO}, ORep K w H a o → clO n o = true → ORep K (w.cut n) H a o
  | .lst ds, ⟨xs, q, r⟩, c => ⟨xs, q, RepAll.cut ds xs r c⟩
  | .ins C fs, ⟨dx, vs, q, r⟩, c => ⟨dx, vs, q, RepF.cut fs vs r c⟩
  | .dead, h, _ => h
theorem ORep.cl : ∀ {o : MO}, ORep K w H a o → clO w.th.length o = true
  | .lst ds, ⟨xs, q, r⟩ => RepAll.cl ds xs r
  | .ins C fs, ⟨dx, vs, q, r⟩ => RepF.cl fs vs r
  | .dead, h => rfl
theorem HRep.cut {n : Nat} (h : HRep K w m H) (c : ∀ o ∈ m.M.take n, clO n o = true) : HRep K (w.cut n) (m.cut n) H where
  ext := h.ext
  len := by show (w.th.take n).length = (m.M.take n).length; rw [List.length_take, List.length_take, h.len]
  nd := h.nd.sublist (List.take_sublist _ _)
  obj := fun k a o q1 q2 => by
    have q1 : (w.th.take n)[k]? = some a := q1
    have q2 : (m.M.take n)[k]? = some o := q2
    have hk : k < n := by
      have z := (List.getElem?_eq_some_iff.mp q1).1
      rw [List.length_take] at z; omega
    have cc := c o (List.mem_of_getElem? q2)
    rw [List.getElem?_take_of_lt hk] at q1 q2
    exact (h.obj k a o q1 q2).cut cc
  thF := fun k a o q1 q2 q3 => by
    have q1 : (w.th.take n)[k]? = some a := q1
    have q2 : (m.M.take n)[k]? = some o := q2
    have hk : k < n := by
      have z := (List.getElem?_eq_some_iff.mp q1).1
      rw [List.length_take] at z; omega
    rw [List.getElem?_take_of_lt hk] at q1 q2
    exact h.thF k a o q1 q2 q3
  ls := fun s1 S q => by
    obtain ⟨h1, h2⟩ := h.ls s1 S q
    exact ⟨h1, fun a ha => ⟨(h2 a ha).1, fun z => (h2 a ha).2.1 (List.mem_of_mem_take z), (h2 a ha).2.2⟩⟩
  flag := h.flag
/-- objects as they were at an entry bear no later handles -/
theorem HRep.cls (h : HRep K w m H) : ∀ o ∈ m.M, clO m.M.length o = true := fun o ho => by
  obtain ⟨k, hk, rfl⟩ := List.mem_iff_getElem.mp ho
  have hk2 : k < w.th.length := by rw [h.len]; exact hk
  have z := (h.obj k _ _ (List.getElem?_eq_getElem hk2) (List.getElem?_eq_getElem hk)).cl
  rw [h.len] at z; exact z
theorem Wd.le_cut {w0 : Wd} {n : Nat} (l : w0.le w) (hn : w0.th.length ≤ n) : w0.le (w.cut n) := ⟨l.F, fun k a e => by
  show (w.th.take n)[k]? = some a
  rw [List.getElem?_take_of_lt (Nat.lt_of_lt_of_le (List.getElem?_eq_some_iff.mp e).1 hn)]; exact l.th k a e, l.S⟩
end
end Dl

namespace Dl
open PySem L2 PyProof.Rows

/-! ### expressions -/
def dVar (i : Nat) : DE := fun ρ m Φ _ => match ρ[i]? with
  | some (some d) => Φ d m
  | _ => False
def dC (d : D) : DE := fun _ m Φ _ => Φ d m
section
variable {X : Cx} {E : WX} {a b c : Expr} {Wa Wb Wc : DE} {pos : Pos}
theorem je_var (i : Nat) {x : Str} {pos : Pos} (hN : X.N[i]? = some x := by rfl) (hv : Vis X.env.scope x := by first | exact Or.inl rfl | exact Or.inr (Or.inl rfl) | exact Or.inr (Or.inr rfl)) (hd : (x == ("__debug__" : Str)) = false := by decide)
    (hcd : (x == ("__classdict__" : Str)) = false := by decide) : JE X E (.Name x pos) (dVar i) := PE.imp (pe_var hN hv hd hcd) fun σ H Q ⟨w, ρ, m, Ψ, Φ, a, vl, h⟩ => by
  unfold dVar at h
  split at h
  · rename_i d e
    obtain ⟨v, e1, r⟩ := a.s.2 i d e
    exact ⟨v, e1, vl d m w H v (.refl w) a.h r h⟩
  · exact h.elim
theorem je_of {e : Expr} {v : V} {d : D} (h : PE X e (tC v)) (r : ∀ w, Rep X.K w d v) : JE X E e (dC d) := PE.imp h fun σ H Q ⟨w, ρ, m, Ψ, Φ, a, vl, h⟩ => vl d m w H v (.refl w) a.h (r w) h
theorem je_int {i j pos} : JE X E (.Constant (.int i) j pos) (dC (.int i)) := je_of pe_int fun _ => rfl
theorem je_bl {b j pos} : JE X E (.Constant (.bool b) j pos) (dC (.bl b)) := je_of pe_bl fun _ => rfl
theorem je_non {j pos} : JE X E (.Constant .none j pos) (dC .non) := je_of pe_non fun _ => rfl
theorem je_str {x j pos} : JE X E (.Constant (.str x) j pos) (dC (.str x)) := je_of pe_str fun _ => rfl
/-- an operation on values, lifted -/
abbrev DO := D → D → MM → (D → MM → Prop) → Prop
def OpL (K : PySem.W.Frag) (r : R2) (o : DO) : Prop := ∀ w m H x y u v Q Φ, HRep K w m H → Rep K w x u → Rep K w y v → VLift K w Q Φ → o x y m Φ → r u v H Q
def dOp (o : DO) (a b : DE) : DE := fun ρ m Φ Ψ => a ρ m (fun x m1 => b ρ m1 (fun y m2 => o x y m2 Φ) Ψ) Ψ
theorem dOp_ok {r : R2} {o : DO} (hl : OpL X.K r o) {σ : L2.St} {H : Hp} {Q : VK} (h : lift X.K E (dOp o Wa Wb) σ H Q) : tOp r (lift X.K E Wa) (lift X.K E Wb) σ H Q := by
  obtain ⟨w, ρ, m, Ψ, Φ, a, vl, h⟩ := h
  refine ⟨w, ρ, m, Ψ, _, a, fun x m1 w1 H1 u l1 h1 r1 q1 => ?_, h⟩
  refine ⟨w1, ρ, m1, Ψ, _, a.to l1 h1, fun y m2 w2 H2 v l2 h2 r2 q2 => ?_, q1⟩
  exact hl w2 m2 H2 x y u v Q Φ h2 (Rep.mono l2 _ _ r1) r2 (vl.mono (l1.trans l2)) q2
theorem je_op {op : Operator} {r : R2} {o : DO} (ho : OpR X (binaryOp op) r) (hl : OpL X.K r o) (ha : JE X E a Wa) (hb : JE X E b Wb) : JE X E (.BinOp a op b pos) (dOp o Wa Wb) := PE.imp (pe_op ho ha hb) fun _ _ _ h => dOp_ok hl h
theorem je_cmp {op : CmpOp} {r : R2} {o : DO} (ho : OpR X (compareOp op) r) (hl : OpL X.K r o) (ha : JE X E a Wa) (hb : JE X E b Wb) (hm : behindInMarks op b = false) : JE X E (.Compare a [op] [b] pos) (dOp o Wa Wb) := PE.imp (pe_cmpR ho ha hb hm) fun _ _ _ h => dOp_ok hl h
/-- a value that is True or False, as a test -/
def dB (W : DE) : DT := fun ρ m Φ Ψ => W ρ m (fun d m1 => match d with
  | .bl b => Φ b m1
  | _ => False) Ψ
theorem dB_ok {t : TE} {W : DE} (ht : ∀ σ H Q, lift X.K E W σ H Q → t σ H Q) {σ : L2.St} {H : Hp} {Q : Bool → Hp → Prop} (h : liftT X.K E (dB W) σ H Q) : tTest t σ H Q := by
  obtain ⟨w, ρ, m, Ψ, Φ, a, vl, h⟩ := h
  refine ht σ H _ ⟨w, ρ, m, Ψ, _, a, fun d m1 w1 H1 v l1 h1 r1 q1 => ?_, h⟩
  cases d with
  | bl b => exact ⟨b, r1, vl b m1 w1 H1 l1 h1 q1⟩
  | _ => exact False.elim q1
theorem jt_cmp {op : CmpOp} {r : R2} {o : DO} (ho : OpR X (compareOp op) r) (hl : OpL X.K r o) (ha : JE X E a Wa) (hb : JE X E b Wb) (hm : behindInMarks op b = false) : JT X E (.Compare a [op] [b] pos) (dB (dOp o Wa Wb)) :=
  PT.imp (pt_cmpR ho ha hb hm) fun _ _ _ h => dB_ok (fun _ _ _ h => dOp_ok hl h) h
theorem jt_val {e : Expr} {W : DE} (h : JE X E e W) (he : ∀ whole, isTrue e X.env whole = (do let v ← whole; standAt e.pos; holding [v] (truthy v)) := by intro _; rfl) : JT X E e (dB W) :=
  PT.imp (pt_val h he) fun _ _ _ h => dB_ok (t := lift X.K E W) (fun _ _ _ h => h) h
/-- a op1 b op2 c -/
def dChain (o o' : DO) (a b c : DE) : DE := fun ρ m Φ Ψ => a ρ m (fun x m1 => b ρ m1 (fun y m2 => o x y m2 (fun z m3 => match z with
  | .bl k => if k = true then c ρ m3 (fun u m4 => o' y u m4 Φ) Ψ else Φ (.bl false) m3
  | _ => False)) Ψ) Ψ
/-- one-place operations -/
abbrev DO1 := D → MM → (D → MM → Prop) → Prop
def dUn (o : DO1) (a : DE) : DE := fun ρ m Φ Ψ => a ρ m (fun x m1 => o x m1 Φ) Ψ
/-! ### tests -/
variable {tA tB' : DT} {rest : List Expr}
def dAnd (t u : DT) : DT := fun ρ m Φ Ψ => t ρ m (fun c m1 => if c = true then u ρ m1 Φ Ψ else Φ false m1) Ψ
def dOr (t u : DT) : DT := fun ρ m Φ Ψ => t ρ m (fun c m1 => if c = true then Φ true m1 else u ρ m1 Φ Ψ) Ψ
def dNot (t : DT) : DT := fun ρ m Φ Ψ => t ρ m (fun c m1 => Φ (!c) m1) Ψ
theorem jw_and1 (ha : JT X E a tA) : JW X E (.BoolOp .And [a] pos) tA := pw_and1 ha
theorem jw_or1 (ha : JT X E a tA) : JW X E (.BoolOp .Or [a] pos) tA := pw_or1 ha
theorem jw_and (ha : JT X E a tA) (hb : JW X E (.BoolOp .And (b :: rest) pos) tB') : JW X E (.BoolOp .And (a :: b :: rest) pos) (dAnd tA tB') := PW.imp (pw_and ha hb) fun σ H Q ⟨w, ρ, m, Ψ, Φ, a, vl, h⟩ => by
  refine ⟨w, ρ, m, Ψ, _, a, fun c m1 w1 H1 l1 h1 q1 => ?_, h⟩
  cases c with
  | true => exact ⟨w1, ρ, m1, Ψ, Φ, a.to l1 h1, fun b m2 w2 H2 l2 h2 q2 => vl b m2 w2 H2 (l1.trans l2) h2 q2, q1⟩
  | false => exact vl false m1 w1 H1 l1 h1 q1
theorem jw_or (ha : JT X E a tA) (hb : JW X E (.BoolOp .Or (b :: rest) pos) tB') : JW X E (.BoolOp .Or (a :: b :: rest) pos) (dOr tA tB') := PW.imp (pw_or ha hb) fun σ H Q ⟨w, ρ, m, Ψ, Φ, a, vl, h⟩ => by
  refine ⟨w, ρ, m, Ψ, _, a, fun c m1 w1 H1 l1 h1 q1 => ?_, h⟩
  cases c with
  | false => exact ⟨w1, ρ, m1, Ψ, Φ, a.to l1 h1, fun b m2 w2 H2 l2 h2 q2 => vl b m2 w2 H2 (l1.trans l2) h2 q2, q1⟩
  | true => exact vl true m1 w1 H1 l1 h1 q1
theorem jt_not (ha : JT X E a tA) : JT X E (.UnaryOp .Not a pos) (dNot tA) := PT.imp (pt_not ha) fun σ H Q ⟨w, ρ, m, Ψ, Φ, a, vl, h⟩ =>
  ⟨w, ρ, m, Ψ, _, a, fun c m1 w1 H1 l1 h1 q1 => vl (!c) m1 w1 H1 l1 h1 q1, h⟩
/-- and, or, not as values of True and False -/
def dBlV (d : D) (f : Bool → Prop) : Prop := match d with
  | .bl b => f b
  | _ => False
def dAndV (a b : DE) : DE := fun ρ m Φ Ψ => a ρ m (fun x m1 => dBlV x fun c => if c = true then b ρ m1 Φ Ψ else Φ (.bl false) m1) Ψ
def dOrV (a b : DE) : DE := fun ρ m Φ Ψ => a ρ m (fun x m1 => dBlV x fun c => if c = true then Φ (.bl true) m1 else b ρ m1 Φ Ψ) Ψ
def dNotV (a : DE) : DE := fun ρ m Φ Ψ => a ρ m (fun x m1 => dBlV x fun c => Φ (.bl (!c)) m1) Ψ
theorem je_one {op} (h : JE X E a Wa) : JE X E (.BoolOp op [a] pos) Wa := pe_one h
theorem je_and (ha : JE X E a Wa) (hb : JE X E (.BoolOp .And (b :: rest) pos) Wb) : JE X E (.BoolOp .And (a :: b :: rest) pos) (dAndV Wa Wb) := PE.imp (pe_and ha hb) fun σ H Q ⟨w, ρ, m, Ψ, Φ, a, vl, h⟩ => by
  refine ⟨w, ρ, m, Ψ, _, a, fun c m1 w1 H1 v l1 h1 r1 q1 => ?_, h⟩
  cases c with
  | bl c =>
    refine ⟨c, r1, ?_⟩
    cases c with
    | true => exact ⟨w1, ρ, m1, Ψ, Φ, a.to l1 h1, vl.mono l1, q1⟩
    | false => exact vl (.bl false) m1 w1 H1 _ l1 h1 rfl q1
  | _ => exact False.elim q1
def dIfE (t : DT) (a b : DE) : DE := fun ρ m Φ Ψ => t ρ m (fun c m1 => if c = true then a ρ m1 Φ Ψ else b ρ m1 Φ Ψ) Ψ
/-! ### argument lists, displays -/
variable {es : List Expr} {Ws : DA}
def dNil : DA := fun _ m Φ _ => Φ [] m
def dCons (a : DE) (r : DA) : DA := fun ρ m Φ Ψ => a ρ m (fun x m1 => r ρ m1 (fun xs m2 => Φ (x :: xs) m2) Ψ) Ψ
theorem ja_nil : JA X E [] dNil := PA.imp pa_nil fun σ H Q ⟨w, ρ, m, Ψ, Φ, a, vl, h⟩ => vl [] m w H [] (.refl w) a.h rfl h
theorem ja_cons (ha : JE X E a Wa) (hr : JA X E es Ws) (hs : starEach (a :: es) X.env = (false, eval a X.env) :: starEach es X.env := by rfl) : JA X E (a :: es) (dCons Wa Ws) := PA.imp (pa_cons ha hr hs) fun σ H Q ⟨w, ρ, m, Ψ, Φ, a, vl, h⟩ => by
  refine ⟨w, ρ, m, Ψ, _, a, fun x m1 w1 H1 v l1 h1 r1 q1 => ?_, h⟩
  exact ⟨w1, ρ, m1, Ψ, _, a.to l1 h1, fun ds m2 w2 H2 vs l2 h2 r2 q2 => vl (x :: ds) m2 w2 H2 _ (l1.trans l2) h2 ⟨v, vs, rfl, Rep.mono l2 _ _ r1, r2⟩ q2, q1⟩
abbrev LIM : Nat := 16777216
theorem lim_sz {n : Nat} (h : n ≤ LIM) : n ≤ sizeLine := by rw [sizeLine_eq]; exact h
theorem lim_lt {n : Nat} (h : n < LIM) : n < sizeLine := by rw [sizeLine_eq]; exact h
def dLst (r : DA) : DE := fun ρ m Φ Ψ => r ρ m (fun ds m1 => ds.length ≤ LIM ∧ Φ (.lst ds) m1) Ψ
def dTup (r : DA) : DE := fun ρ m Φ Ψ => r ρ m (fun ds m1 => ds.length ≤ LIM ∧ Φ (.tup ds) m1) Ψ
def dLstM (r : DA) : DE := fun ρ m Φ Ψ => r ρ m (fun ds m1 => ds.length ≤ LIM ∧ Φ (.hnd m1.M.length) (m1.push (.lst ds))) Ψ
theorem je_lst (h : JA X E es Ws) : JE X E (.List es pos) (dLst Ws) := PE.imp (pe_lst h) fun σ H Q ⟨w, ρ, m, Ψ, Φ, a, vl, h⟩ =>
  ⟨w, ρ, m, Ψ, _, a, fun ds m1 w1 H1 vs l1 h1 r1 ⟨z, q1⟩ => ⟨lim_sz (by rw [r1.length]; exact z), fun p hp => vl _ m1 _ _ _ (l1.trans (Wd.le_put (h1.nof hp))) (h1.put hp) (rep_put_lst h1 hp r1) q1⟩, h⟩
theorem je_tup {x1} (h : JA X E es Ws) : JE X E (.Tuple es x1 pos) (dTup Ws) := PE.imp (pe_tup h) fun σ H Q ⟨w, ρ, m, Ψ, Φ, a, vl, h⟩ =>
  ⟨w, ρ, m, Ψ, _, a, fun ds m1 w1 H1 vs l1 h1 r1 ⟨z, q1⟩ => ⟨lim_sz (by rw [r1.length]; exact z), fun p hp => vl _ m1 _ _ _ (l1.trans (Wd.le_put (h1.nof hp))) (h1.put hp) (rep_put_tup h1 hp r1) q1⟩, h⟩
theorem je_lstM (h : JA X E es Ws) : JE X E (.List es pos) (dLstM Ws) := PE.imp (pe_lst h) fun σ H Q ⟨w, ρ, m, Ψ, Φ, a, vl, h⟩ =>
  ⟨w, ρ, m, Ψ, _, a, fun ds m1 w1 H1 vs l1 h1 r1 ⟨z, q1⟩ => ⟨lim_sz (by rw [r1.length]; exact z), fun p hp => vl _ _ _ _ _ (l1.trans Wd.le_add) (h1.add (o := .lst ds) hp ⟨vs, upd_same, RepAll.mono Wd.le_add _ _ r1⟩) (rep_add h1) q1⟩, h⟩

/-! ### calls -/
/-- what a def is worth: arguments, store, wanted end, wanted exception -/
abbrev DC := List D → MM → (D → MM → Prop) → XP → Prop
def spOf (K : PySem.W.Frag) (n : Nat) (C : DC) : Sp := fun vs H Q E => vs.length = n ∧ ∃ w ds m Φ Ψ, HRep K w m H ∧ RepAll K w ds vs ∧ VLift K w Q Φ ∧ XLift K w (fun cls d _ H => E cls d H) [] Ψ ∧ C ds m Φ Ψ
def dCall (n : Nat) (C : DC) (r : DA) : DE := fun ρ m Φ Ψ => r ρ m (fun ds m1 => ds.length = n ∧ C ds m1 Φ Ψ) Ψ
variable {k n : Nat} {f : Addr} {fd : FuncData} {ps : List Str} {C : DC} {x : Str} {p : Pos}
theorem call_ok {w : Wd} {ρ : Env} {m : MM} {Ψ : XP} {Φ : D → MM → Prop} {σ : L2.St} {H : Hp} {Q : VK} {ds : List D} {vs : List V} (a : At X.K E w σ H ρ m Ψ) (vl : VLift X.K w Q Φ) (r : RepAll X.K w ds vs) (hn : ds.length = n) (c : C ds m Φ Ψ) :
    spOf X.K n C (vs ++ []) H Q (WE E σ) := by
  rw [List.append_nil]
  exact ⟨r.length.trans hn, w, ds, m, Φ, Ψ, a.h, r, vl, fun C fs m' w' H' d xs l h b c q => a.x C fs m' w' H' d xs l h b c q, c⟩
theorem je_call {e : Expr} (tk : Takes X E) (F : FnOk X.prog X.w X.K X.mg X.base (L2.CX X.prog X.w) k f fd ps (spOf X.K n C)) (hr : Room k X.A) (hg : Gl X x) (hm : X.mg x = some (.ref f)) (hk : PySem.W.keepIn X.K (.ref f) = true) (hb : Binds X.K fd ps [])
    (ha : JA X E (e :: es) Ws) (hdb : (x == ("__debug__" : Str)) = false := by decide) (he : starEach (e :: es) X.env = (false, eval e X.env) :: starEach es X.env := by rfl) (hpl : (backTo pos (starEach es X.env)).any (·.1) = false := by rfl) :
    JE X E (.Call (.Name x p) (e :: es) [] pos) (dCall n C Ws) := PE.imp (pe_callS F hr hg hm hk hb (fun σ => passAt tk σ) ha hdb he hpl) fun σ H Q ⟨w, ρ, m, Ψ, Φ, a, vl, h⟩ =>
  ⟨w, ρ, m, Ψ, _, a, fun ds m1 w1 H1 vs l1 h1 r1 ⟨hn, q1⟩ => by
    have z := call_ok (C := C) (a.to l1 h1) (vl.mono l1) r1 hn q1
    rw [List.append_nil] at z
    exact z, h⟩
end
end Dl

namespace Dl
open PySem L2 PyProof.Rows

/-! ### statements -/
def dNext : DS := fun N _ ρ m => N.nx ρ m
def dSeq (t u : DS) : DS := fun N Ψ ρ m => t { N with nx := u N Ψ } Ψ ρ m
def dDrop (e : DE) : DS := fun N Ψ ρ m => e ρ m (fun _ m1 => N.nx ρ m1) (Ψ ρ)
def dRet (e : DE) : DS := fun N Ψ ρ m => e ρ m N.rt (Ψ ρ)
def dRetN : DS := fun N _ _ m => N.rt .non m
def dIf (c : DT) (t u : DS) : DS := fun N Ψ ρ m => c ρ m (fun b m1 => if b = true then t N Ψ ρ m1 else u N Ψ ρ m1) (Ψ ρ)
def dSet (i : Nat) (e : DE) : DS := fun N Ψ ρ m => e ρ m (fun d m1 => N.nx (ρ.set i (some d)) m1) (Ψ ρ)
/-- targets -/
abbrev DG := D → Env → MM → (Env → MM → Prop) → Prop
def dgName (i : Nat) : DG := fun d ρ m k => k (ρ.set i (some d)) m
def bindD : List Nat → List D → Env → Env
  | i :: is, d :: ds, ρ => bindD is ds (ρ.set i (some d))
  | _, _, ρ => ρ
def asT : D → Option (List D)
  | .tup ds => some ds
  | .rot ds => some ds
  | _ => none
def dgTup (is : List Nat) : DG := fun d ρ m k => match asT d with
  | some ds => ds.length = is.length ∧ k (bindD is ds ρ) m
  | none => False
def dAsg (e : DE) (g : DG) : DS := fun N Ψ ρ m => e ρ m (fun d m1 => g d ρ m1 N.nx) (Ψ ρ)
def dAug (i : Nat) (o : DO) (e : DE) : DS := fun N Ψ ρ m => match ρ[i]? with
  | some (some x) => e ρ m (fun y m1 => o x y m1 (fun z m2 => N.nx (ρ.set i (some z)) m2)) (Ψ ρ)
  | _ => False
/-- iteration -/
abbrev DI := Env → MM → (List D → MM → Prop) → XP → Prop
def forW (g : DG) (body : DS) (N : DN) (Ψ : XS) : List D → Env → MM → Prop
  | [], ρ, m => N.nx ρ m
  | d :: ds, ρ, m => g d ρ m fun ρ1 m1 => body { N with nx := forW g body N Ψ ds, ct := forW g body N Ψ ds, bk := N.nx } Ψ ρ1 m1
def dFor (it : DI) (g : DG) (body : DS) : DS := fun N Ψ ρ m => it ρ m (fun ds m1 => forW g body N Ψ ds ρ m1) (Ψ ρ)
def dWhile (c : DT) (body : DS) : DS := fun N Ψ ρ m => ∃ W : Nat → Env → MM → Prop, (∃ n, W n ρ m) ∧ ∀ n ρ m, W n ρ m →
  c ρ m (fun b m1 => if b = true then body { N with nx := fun ρ' m' => ∃ n', n' < n ∧ W n' ρ' m', ct := fun ρ' m' => ∃ n', n' < n ∧ W n' ρ' m', bk := N.nx } Ψ ρ m1 else N.nx ρ m1) (Ψ ρ)

section
variable {X : Cx} {E : WX} {a b c : Expr} {Wa Wb Wc : DE} {pos : Pos} {st : Stmt} {rest body : List Stmt} {t u : DS} {tc : DT}
theorem NLift.with {K : PySem.W.Frag} {w : Wd} {D : Ends} {N : DN} (h : NLift K w D N) {q : L2.St → Hp → Prop} {f : Env → MM → Prop} (s : SLift K w q f) : NLift K w { D with nx := q } { N with nx := f } := ⟨s, h.rt, h.bk, h.ct⟩
theorem jss_nil : JSs X E [] dNext := PSs.imp pss_nil fun D σ H ⟨w, ρ, m, Ψ, N, a, n, h⟩ => n.nx ρ m w H σ (.refl w) a.h a.s h
theorem jss_cons (h1 : JS X E st t) (h2 : JSs X E rest u) : JSs X E (st :: rest) (dSeq t u) := PSs.imp (pss_cons h1 h2) fun D σ H ⟨w, ρ, m, Ψ, N, a, n, h⟩ =>
  ⟨w, ρ, m, Ψ, { N with nx := u N Ψ }, a, n.with fun ρ' m' w' H' σ' l h' s' q => ⟨w', ρ', m', Ψ, N, ⟨h', s', a.x.mono l⟩, n.mono l, q⟩, h⟩
theorem jss_one (h1 : JS X E st t) : JSs X E [st] t := pss_one h1
theorem js_expr (he : JE X E a Wa) (hs : swapsWith a none pos.line X.env = pure false := by rfl) : JS X E (.Expr a pos) (dDrop Wa) := PS.imp (ps_expr he hs) fun D σ H ⟨w, ρ, m, Ψ, N, a, n, h⟩ =>
  ⟨w, ρ, m, Ψ ρ, _, a.at, fun d m1 w1 H1 v l1 h1 r1 q1 => n.nx ρ m1 w1 H1 σ l1 h1 (a.s.mono l1) q1, h⟩
theorem js_ret (he : JE X E a Wa) : JS X E (.Return (some a) pos) (dRet Wa) := PS.imp (ps_ret he) fun D σ H ⟨w, ρ, m, Ψ, N, a, n, h⟩ => ⟨w, ρ, m, Ψ ρ, _, a.at, n.rt, h⟩
theorem js_if {A B : List Stmt} (hc : JT X E c tc) (ha : JSs X E A t) (hb : JSs X E B u) : JS X E (.If c A B pos) (dIf tc t u) := PS.imp (ps_if hc ha hb) fun D σ H ⟨w, ρ, m, Ψ, N, a, n, h⟩ => by
  refine ⟨w, ρ, m, Ψ ρ, _, a.at, fun b m1 w1 H1 l1 h1 q1 => ?_, h⟩
  cases b with
  | true => exact ⟨w1, ρ, m1, Ψ, N, a.to l1 h1, n.mono l1, q1⟩
  | false => exact ⟨w1, ρ, m1, Ψ, N, a.to l1 h1, n.mono l1, q1⟩
theorem js_set (i : Nat) {x : Str} {pos' : Pos} (hN : X.N.Nodup) (hi : X.N[i]? = some x) (hx : Loc X.env.scope x) (he : JE X E a Wa) (hs : swapsWith a (some (.Name x pos')) pos.line X.env = pure false := by rfl)
    (hf : X.fn x = true ∨ X.env.scope.names.lookup x = some .local := by first | exact .inl rfl | exact .inr rfl | assumption) : JS X E (.Assign [.Name x pos'] a pos) (dSet i Wa) := PS.imp (ps_set hN hi hx he hs hf) fun D σ H ⟨w, ρ, m, Ψ, N, a, n, h⟩ =>
  ⟨w, ρ, m, Ψ ρ, _, a.at, fun d m1 w1 H1 v l1 h1 r1 q1 => n.nx _ m1 w1 H1 _ l1 h1 ((a.s.mono l1).set i r1) q1, h⟩

/-! targets -/
def liftG (K : PySem.W.Frag) (js : List Nat) (G : DG) : TG := fun v σ H Q => ∃ w ρ m d k, HRep K w m H ∧ Slots K w σ ρ ∧ Rep K w d v ∧ (∀ ρ' m' w' H' σ', w.le w' → HRep K w' m' H' → Slots K w' σ' ρ' → wipe σ' js = wipe σ js → k ρ' m' → Q σ' H') ∧ G d ρ m k
theorem PG.imp {e : Expr} {t t' : TG} (h : PG X e t) (i : ∀ v σ H Q, t' v σ H Q → t v σ H Q) : PG X e t' := ⟨fun pins s σ H x v Q I r q => h.run pins s σ H x v Q I r (i x σ H Q q)⟩
theorem wipe_get {σ : L2.St} {js : List Nat} {i : Nat} : (wipe σ js)[i]? = if i ∈ js ∧ i < σ.length then some none else σ[i]? := by
  induction js with
  | nil => simp [wipe]
  | cons j js ih =>
    show ((wipe σ js).set j none)[i]? = _
    by_cases h : j = i
    · subst h
      by_cases hl : j < σ.length
      · rw [List.getElem?_set_self (by rw [wipe_length]; exact hl), if_pos ⟨List.mem_cons_self, hl⟩]
      · rw [List.getElem?_eq_none (by rw [List.length_set, wipe_length]; omega), if_neg (fun z => hl z.2), List.getElem?_eq_none (by omega)]
    · rw [List.getElem?_set_ne h, ih]
      have e : (i ∈ j :: js ∧ i < σ.length) ↔ (i ∈ js ∧ i < σ.length) := by
        constructor
        · rintro ⟨z, q⟩
          rcases List.mem_cons.mp z with z | z
          · exact absurd z.symm h
          · exact ⟨z, q⟩
        · rintro ⟨z, q⟩; exact ⟨List.mem_cons_of_mem _ z, q⟩
      by_cases q : i ∈ js ∧ i < σ.length
      · rw [if_pos q, if_pos (e.mpr q)]
      · rw [if_neg q, if_neg (fun z => q (e.mp z))]
theorem wipe_set {σ : L2.St} {js : List Nat} {i : Nat} {v : Option V} (h : i ∈ js) : wipe (σ.set i v) js = wipe σ js := by
  apply List.ext_getElem?
  intro j
  rw [wipe_get, wipe_get, List.length_set]
  by_cases q : j ∈ js ∧ j < σ.length
  · rw [if_pos q, if_pos q]
  · rw [if_neg q, if_neg q]
    by_cases e : i = j
    · subst e
      have hl : ¬ i < σ.length := fun z => q ⟨h, z⟩
      rw [List.getElem?_eq_none (by rw [List.length_set]; omega), List.getElem?_eq_none (by omega)]
    · rw [List.getElem?_set_ne e]
theorem wipe_wipe {σ : L2.St} {js : List Nat} : wipe (wipe σ js) js = wipe σ js := by
  apply List.ext_getElem?
  intro j
  rw [wipe_get, wipe_get, wipe_length]
  by_cases q : j ∈ js ∧ j < σ.length
  · simp [q]
  · simp [q]
theorem jg_name (i : Nat) {x : Str} {pos : Pos} {js : List Nat} (hj : i ∈ js) (hN : X.N.Nodup) (hi : X.N[i]? = some x) (hx : Loc X.env.scope x) (hf : X.fn x = true ∨ X.env.scope.names.lookup x = some .local := by first | exact .inl rfl | exact .inr rfl | assumption) :
    PG X (.Name x pos) (liftG X.K js (dgName i)) := PG.imp (pg_name hN hi hx hf) fun v σ H Q ⟨w, ρ, m, d, k, h, s, r, n, q⟩ => n _ m w H _ (.refl w) h (s.set i r) (wipe_set hj) q
theorem asT_ok {K : PySem.W.Frag} {w : Wd} {m : MM} {H : Hp} {d : D} {ds : List D} {v : V} (h : HRep K w m H) (e : asT d = some ds) (r : Rep K w d v) : ∃ a xs, v = .ref a ∧ SqT K H a xs ∧ RepAll K w ds xs := by
  cases d with
  | tup es => cases e; obtain ⟨a, xs, e, q, r⟩ := r; exact ⟨a, xs, e, .inl (.inl (h.ext _ _ q)), r⟩
  | rot es => cases e; obtain ⟨a, xs, e, q, r⟩ := r; exact ⟨a, xs, e, sqt_mono h.ext q, r⟩
  | _ => cases e
/-! ### loops -/
theorem js_while {c : Expr} (hp : PassesOwn (model X.prog X.w) X.A X.env X.xe) (hc : JT X E c tc) (hb : JSs X E body t) : JS X E (.While c body [] pos) (dWhile tc t) := PS.imp (ps_while hp hc hb) fun D σ H ⟨w, ρ, m, Ψ, N, a, n, h⟩ => by
  obtain ⟨W, ⟨n0, w0⟩, hw⟩ := h
  refine ⟨fun k σ H => ∃ w' ρ m, w.le w' ∧ AtS X.K E w' σ H ρ m Ψ ∧ W k ρ m, ⟨n0, w, ρ, m, .refl w, a, w0⟩, ?_⟩
  rintro k σ1 H1 ⟨w1, ρ1, m1, l1, a1, q1⟩
  refine ⟨w1, ρ1, m1, Ψ ρ1, _, a1.at, fun b m2 w2 H2 l2 h2 q2 => ?_, hw k ρ1 m1 q1⟩
  have a2 := a1.to l2 h2
  cases b with
  | true =>
    show (if true = true then _ else _)
    rw [if_pos rfl]
    refine ⟨fun σ' H' => ∃ k', k' < k ∧ ∃ w' ρ m, w.le w' ∧ AtS X.K E w' σ' H' ρ m Ψ ∧ W k' ρ m, fun σ' H' z => z, w2, ρ1, m2, Ψ, _, a2, ?_, q2⟩
    have n2 := n.mono (l1.trans l2)
    have go : SLift X.K w2 (fun σ' H' => ∃ k', k' < k ∧ ∃ w' ρ m, w.le w' ∧ AtS X.K E w' σ' H' ρ m Ψ ∧ W k' ρ m) (fun ρ' m' => ∃ n', n' < k ∧ W n' ρ' m') := fun ρ' m' w' H' σ' l h' s' ⟨k', lt, q⟩ =>
      ⟨k', lt, w', ρ', m', (l1.trans l2).trans l, ⟨h', s', a2.x.mono l⟩, q⟩
    exact ⟨go, n2.rt, n2.nx, go⟩
  | false =>
    show (if false = true then _ else _)
    rw [if_neg Bool.false_ne_true]
    exact n.nx ρ1 m2 w2 H2 σ1 (l1.trans l2) h2 a2.s q2

/-- an iterator gives just these -/
structure Wlk (K : PySem.W.Frag) (w0 : Wd) (J : It) (ds : List D) : Prop where
  go : ∀ w m H (i : Nat) d, w0.le w → HRep K w m H → ds[i]? = some d → J.go i H
  stop : ∀ w m H, w0.le w → HRep K w m H → J.stop ds.length H
  yld : ∀ w m H (i : Nat) d x H', w0.le w → HRep K w m H → ds[i]? = some d → J.yld i H x H' → ∃ w', w.le w' ∧ HRep K w' m H' ∧ Rep K w' d x
def liftI (K : PySem.W.Frag) (E : WX) (W : DI) : TI := fun σ H R => ∃ w ρ m Ψ Φ, At K E w σ H ρ m Ψ ∧ (∀ ds m' w' H' J, w.le w' → HRep K w' m' H' → Wlk K w' J ds → Φ ds m' → R J H') ∧ W ρ m Φ Ψ
abbrev JI (X : Cx) (E : WX) (tg it : Expr) (W : DI) : Prop := PI X tg it (liftI X.K E W)
theorem PI.imp {tg e : Expr} {t t' : TI} (h : PI X tg e t) (i : ∀ σ H R, t' σ H R → t σ H R) : PI X tg e t' := ⟨fun pins s σ H R I q => h.run pins s σ H R I (i σ H R q)⟩
theorem js_for {tg iter : Expr} {wi : DI} {g : DG} {js : List Nat} (hp : PassesOwn (model X.prog X.w) X.A X.env X.xe) (hc : X.calm = true) (hi : JI X E tg iter wi) (hg : PG X tg (liftG X.K js g)) (hb : JSs X E body t)
    (hs : ∀ x, foldedSetIterable iter X.env x = pure x := by intro _; rfl) : JS X E (.For tg iter body [] pos) (dFor wi g t) := PS.imp (ps_for hp hc hi hg hb hs) fun D σ H ⟨w, ρ, m, Ψ, N, a, n, h⟩ => by
  refine ⟨w, ρ, m, Ψ ρ, _, a.at, fun ds m1 w1 H1 J l1 h1 wk q1 => ?_, h⟩
  refine ⟨fun i k σ H => k = ds.length - i ∧ i ≤ ds.length ∧ ∃ w' ρ m, w1.le w' ∧ AtS X.K E w' σ H ρ m Ψ ∧ forW g t N Ψ (ds.drop i) ρ m, ⟨ds.length, by omega, Nat.zero_le _, w1, ρ, m1, .refl w1, a.to l1 h1, q1⟩, ?_⟩
  rintro i k σ2 H2 ⟨rfl, hi, w2, ρ2, m2, l2, a2, q2⟩
  by_cases hlt : i < ds.length
  · have ed : ds[i]? = some ds[i] := List.getElem?_eq_getElem hlt
    have dr : ds.drop i = ds[i] :: ds.drop (i + 1) := List.drop_eq_getElem_cons hlt
    rw [dr] at q2
    refine .inr ⟨wk.go w2 m2 H2 i _ l2 a2.h ed, fun σ' H' => ∃ w' ρ m, w1.le w' ∧ AtS X.K E w' σ' H' ρ m Ψ ∧ forW g t N Ψ (ds.drop (i + 1)) ρ m, fun σ' H' z => ⟨ds.length - (i + 1), by omega, rfl, hlt, z⟩, fun x H3 y => ?_⟩
    obtain ⟨w3, l3, h3, r3⟩ := wk.yld w2 m2 H2 i _ x H3 l2 a2.h ed y
    refine ⟨w3, ρ2, m2, ds[i], _, h3, a2.s.mono l3, r3, fun ρ' m' w' H' σ' l h' s' _ q => ?_, q2⟩
    have l4 := l2.trans (l3.trans l)
    refine ⟨w', ρ', m', Ψ, _, ⟨h', s', a2.x.mono (l3.trans l)⟩, ?_, q⟩
    have n2 := n.mono (l1.trans l4)
    have go : SLift X.K w' (fun σ' H' => ∃ w' ρ m, w1.le w' ∧ AtS X.K E w' σ' H' ρ m Ψ ∧ forW g t N Ψ (ds.drop (i + 1)) ρ m) (forW g t N Ψ (ds.drop (i + 1))) := fun ρ5 m5 w5 H5 σ5 l5 h5 s5 q5 =>
      ⟨w5, ρ5, m5, l4.trans l5, ⟨h5, s5, a2.x.mono ((l3.trans l).trans l5)⟩, q5⟩
    exact ⟨go, n2.rt, n2.nx, go⟩
  · have e : i = ds.length := by omega
    subst e
    rw [List.drop_length] at q2
    exact .inl ⟨wk.stop w2 m2 H2 l2 a2.h, n.nx ρ2 m2 w2 H2 σ2 (l1.trans l2) a2.h a2.s q2⟩

/-! iterators -/
def moL : Option MO → Option (List D)
  | some (.lst ds) => some ds
  | _ => none
theorem moL_eq {o : Option MO} {ds : List D} (h : moL o = some ds) : o = some (.lst ds) := by
  cases o with
  | none => cases h
  | some o =>
    cases o with
    | lst es => cases h; rfl
    | _ => cases h
def asL (m : MM) : D → Option (List D)
  | .lst ds => some ds
  | .rol ds => some ds
  | .hnd k => moL m.M[k]?
  | _ => none
def asF : D → Option (List D)
  | .lst ds => some ds
  | .rol ds => some ds
  | _ => none
theorem asL_ok {K : PySem.W.Frag} {w : Wd} {m : MM} {H : Hp} {d : D} {ds : List D} {v : V} (h : HRep K w m H) (e : asL m d = some ds) (r : Rep K w d v) : ∃ a xs, v = .ref a ∧ SqL K H a xs ∧ RepAll K w ds xs := by
  cases d with
  | lst es => cases e; obtain ⟨a, xs, e, q, r⟩ := r; exact ⟨a, xs, e, .inl (.inl (h.ext _ _ q)), r⟩
  | rol es => cases e; obtain ⟨a, xs, e, q, r⟩ := r; exact ⟨a, xs, e, sql_mono h.ext q, r⟩
  | hnd k =>
    have q := moL_eq e
    obtain ⟨a, e, q2⟩ := r
    obtain ⟨xs, hx, rr⟩ := h.obj k a _ q2 q
    exact ⟨a, xs, e, .inl (.inl hx), rr⟩
  | _ => cases e
theorem asF_ok {K : PySem.W.Frag} {w : Wd} {d : D} {ds : List D} {v : V} (e : asF d = some ds) (r : Rep K w d v) : ∃ a xs, v = .ref a ∧ SqL K w.F a xs ∧ RepAll K w ds xs := by
  cases d with
  | lst es => cases e; obtain ⟨a, xs, e, q, r⟩ := r; exact ⟨a, xs, e, .inl (.inl q), r⟩
  | rol es => cases e; obtain ⟨a, xs, e, q, r⟩ := r; exact ⟨a, xs, e, q, r⟩
  | _ => cases e
def diList (e : DE) : DI := fun ρ m Φ Ψ => e ρ m (fun d m1 => match asF d with
  | some ds => Φ ds m1
  | none => False) Ψ
theorem wlk_list {K : PySem.W.Frag} {w : Wd} {a : Addr} {xs : List V} {ds : List D} (q : SqL K w.F a xs) (r : RepAll K w ds xs) : Wlk K w (Itl K a) ds where
  go := fun w1 m H i d l h e => by
    obtain ⟨v, e1, _⟩ := r.get e
    exact ⟨xs, v, sql_mono (fun a o z => h.ext a o (l.F a o z)) q, e1⟩
  stop := fun w1 m H l h => ⟨xs, sql_mono (fun a o z => h.ext a o (l.F a o z)) q, Nat.le_of_eq r.length⟩
  yld := fun w1 m H i d x H' l h e y => by
    obtain ⟨rfl, y⟩ := y
    obtain ⟨v, e1, rv⟩ := r.get e
    have z := y xs (sql_mono (fun a o z => h.ext a o (l.F a o z)) q)
    rw [e1] at z; cases z
    exact ⟨w1, .refl w1, h, Rep.mono l _ _ rv⟩
theorem ji_list {tg : Expr} (h : JE X E a Wa) : JI X E tg a (diList Wa) := PI.imp (pi_list h) fun σ H R ⟨w, ρ, m, Ψ, Φ, a, n, h⟩ => by
  refine ⟨w, ρ, m, Ψ, _, a, fun d m1 w1 H1 v l1 h1 r1 q1 => ?_, h⟩
  split at q1
  · rename_i ds e
    obtain ⟨a, xs, rfl, q, r⟩ := asF_ok e r1
    exact ⟨a, rfl, ⟨xs, sql_mono h1.ext q⟩, n ds m1 w1 H1 _ l1 h1 (wlk_list q r) q1⟩
  · exact q1.elim
def rngD (lo : Int) (n : Nat) : List D := (List.range n).map fun i => D.int (lo + (i : Nat))
theorem wlk_range {K : PySem.W.Frag} {w : Wd} {lo : Int} {n : Nat} : Wlk K w (Itr lo n) (rngD lo n) where
  go := fun w1 m H i d l h e => by
    have z := (List.getElem?_eq_some_iff.mp e).1
    show i < n
    simpa [rngD] using z
  stop := fun w1 m H l h => by show n ≤ (rngD lo n).length; simp [rngD]
  yld := fun w1 m H i d x H' l h e y => by
    obtain ⟨rfl, rfl⟩ := y
    have e' : d = D.int (lo + (i : Nat)) := by
      unfold rngD at e
      rw [List.getElem?_map] at e
      cases q : (List.range n)[i]? with
      | none => rw [q] at e; cases e
      | some j =>
        rw [q] at e
        have hj : j = i := by
          have := (List.getElem?_eq_some_iff.mp q).2
          simpa using this.symm
        subst hj
        exact (Option.some.inj e).symm
    subst e'
    exact ⟨w1, .refl w1, h, rfl⟩
def diRng1 (r : DA) : DI := fun ρ m Φ Ψ => r ρ m (fun ds m1 => match ds with
  | [.int j] => (-(2 ^ 62) ≤ j ∧ j < 2 ^ 62) ∧ Φ (rngD 0 j.toNat) m1
  | _ => False) Ψ
def diRng2 (r : DA) : DI := fun ρ m Φ Ψ => r ρ m (fun ds m1 => match ds with
  | [.int i, .int j] => (-(2 ^ 62) ≤ i ∧ i < 2 ^ 62 ∧ -(2 ^ 62) ≤ j ∧ j < 2 ^ 62) ∧ Φ (rngD i (j - i).toNat) m1
  | _ => False) Ψ
theorem rep1 {K : PySem.W.Frag} {w : Wd} {d : D} {vs : List V} (r : RepAll K w [d] vs) : ∃ v, vs = [v] ∧ Rep K w d v := by
  obtain ⟨v, r', rfl, a, b⟩ := r
  have e : r' = [] := b
  subst e; exact ⟨v, rfl, a⟩
theorem rep2 {K : PySem.W.Frag} {w : Wd} {d e : D} {vs : List V} (r : RepAll K w [d, e] vs) : ∃ v u, vs = [v, u] ∧ Rep K w d v ∧ Rep K w e u := by
  obtain ⟨v, r', rfl, a, b⟩ := r
  obtain ⟨u, rfl, c⟩ := rep1 b
  exact ⟨v, u, rfl, a, c⟩
theorem ji_range1 {tg : Expr} {Ws : DA} {p : Pos} (hg : Gl X "range") (hm : X.mg "range" = none) (ha : JA X E [a] Ws) (hs : starEach [a] X.env = [(false, eval a X.env)] := by rfl) : JI X E tg (.Call (.Name "range" p) [a] [] pos) (diRng1 Ws) :=
  PI.imp (pi_range1 hg hm ha hs) fun σ H R ⟨w, ρ, m, Ψ, Φ, a, n, h⟩ => by
  refine ⟨w, ρ, m, Ψ, _, a, fun ds m1 w1 H1 vs l1 h1 r1 q1 => ?_, h⟩
  split at q1
  · obtain ⟨v, rfl, rv⟩ := rep1 r1
    have e : v = .int _ := rv
    subst e
    exact ⟨_, rfl, q1.1.1, q1.1.2, n _ m1 w1 H1 _ l1 h1 wlk_range q1.2⟩
  · exact q1.elim
end
end Dl

namespace Dl
open PySem L2 PyProof.Rows

theorem VLift.int {K : PySem.W.Frag} {w : Wd} {m : MM} {H : Hp} {Q : VK} {Φ : D → MM → Prop} {i : Int} (vl : VLift K w Q Φ) (h : HRep K w m H) (q : Φ (.int i) m) : Q (.int i) H := vl (.int i) m w H _ (.refl w) h rfl q
theorem VLift.bl {K : PySem.W.Frag} {w : Wd} {m : MM} {H : Hp} {Q : VK} {Φ : D → MM → Prop} {i : Bool} (vl : VLift K w Q Φ) (h : HRep K w m H) (q : Φ (.bl i) m) : Q (.bl i) H := vl (.bl i) m w H _ (.refl w) h rfl q
theorem VLift.str {K : PySem.W.Frag} {w : Wd} {m : MM} {H : Hp} {Q : VK} {Φ : D → MM → Prop} {i : Str} (vl : VLift K w Q Φ) (h : HRep K w m H) (q : Φ (.str i) m) : Q (.str i) H := vl (.str i) m w H _ (.refl w) h rfl q
theorem VLift.non {K : PySem.W.Frag} {w : Wd} {m : MM} {H : Hp} {Q : VK} {Φ : D → MM → Prop} (vl : VLift K w Q Φ) (h : HRep K w m H) (q : Φ .non m) : Q .non H := vl .non m w H _ (.refl w) h rfl q
theorem VLift.newL {K : PySem.W.Frag} {w : Wd} {m : MM} {H : Hp} {Q : VK} {Φ : D → MM → Prop} {ds : List D} {xs : List V} {p : Addr} (vl : VLift K w Q Φ) (h : HRep K w m H) (hp : H p = none) (r : RepAll K w ds xs) (q : Φ (.lst ds) m) : Q (.ref p) (upd H p (.lst xs)) :=
  vl _ m _ _ _ (Wd.le_put (h.nof hp)) (h.put hp) (rep_put_lst h hp r) q
theorem VLift.newM {K : PySem.W.Frag} {w : Wd} {m : MM} {H : Hp} {Q : VK} {Φ : D → MM → Prop} {ds : List D} {xs : List V} {p : Addr} (vl : VLift K w Q Φ) (h : HRep K w m H) (hp : H p = none) (r : RepAll K w ds xs) (q : Φ (.hnd m.M.length) (m.push (.lst ds))) : Q (.ref p) (upd H p (.lst xs)) :=
  vl _ _ _ _ _ Wd.le_add (h.add (o := .lst ds) hp ⟨xs, upd_same, RepAll.mono Wd.le_add _ _ r⟩) (rep_add h) q
/-! ### operations -/
def oI (C : Int → Int → Prop) (g : Int → Int → Int) : DO := fun x y m Φ => match x, y with
  | .int i, .int j => C i j ∧ Φ (.int (g i j)) m
  | _, _ => False
def oI0 (g : Int → Int → Int) : DO := fun x y m Φ => match x, y with
  | .int i, .int j => Φ (.int (g i j)) m
  | _, _ => False
def oB0 (g : Int → Int → Bool) : DO := fun x y m Φ => match x, y with
  | .int i, .int j => Φ (.bl (g i j)) m
  | _, _ => False
theorem opl_I {K : PySem.W.Frag} {C C' : Int → Int → Prop} {g : Int → Int → Int} (hC : ∀ i j, C i j → C' i j) : OpL K (rI C' fun i j => .int (g i j)) (oI C g) := fun w m H x y u v Q Φ h r1 r2 vl q => by
  cases x with
  | int i =>
    cases y with
    | int j => exact ⟨i, j, r1, r2, hC _ _ q.1, vl.int h q.2⟩
    | _ => exact False.elim q
  | _ => exact False.elim q
theorem opl_I0 {K : PySem.W.Frag} {g : Int → Int → Int} : OpL K (rI0 fun i j => .int (g i j)) (oI0 g) := fun w m H x y u v Q Φ h r1 r2 vl q => by
  cases x with
  | int i =>
    cases y with
    | int j => exact ⟨i, j, r1, r2, vl.int h q⟩
    | _ => exact False.elim q
  | _ => exact False.elim q
theorem opl_B0 {K : PySem.W.Frag} {g : Int → Int → Bool} : OpL K (rI0 fun i j => .bl (g i j)) (oB0 g) := fun w m H x y u v Q Φ h r1 r2 vl q => by
  cases x with
  | int i =>
    cases y with
    | int j => exact ⟨i, j, r1, r2, vl.bl h q⟩
    | _ => exact False.elim q
  | _ => exact False.elim q
/-- a product: one factor below 2 ^ 64, or both below 2 ^ 400000 -/
def MulC (i j : Int) : Prop := (-(2 ^ 64) < i ∧ i < 2 ^ 64) ∨ (-(2 ^ 64) < j ∧ j < 2 ^ 64) ∨ CMulW i j
theorem op_mulC {X : Cx} : OpR X (binaryOp .Mult) (rI MulC fun i j => .int (i * j)) := fun pins s σ H x y v u Q I rx ry h => by
  obtain ⟨i, j, e1, e2, hc, q⟩ := h
  rcases hc with hc | hc | hc
  · exact op_mul pins s σ H x y v u Q I rx ry ⟨i, j, e1, e2, .inl hc, q⟩
  · exact op_mul pins s σ H x y v u Q I rx ry ⟨i, j, e1, e2, .inr hc, q⟩
  · exact op_mulW pins s σ H x y v u Q I rx ry ⟨i, j, e1, e2, hc, q⟩
def DivC (_ j : Int) : Prop := 0 < j ∧ j < 2 ^ 64
theorem divC_ok {i j : Int} (h : DivC i j) : CDivW i j := wide_div h.1 (b := 64) (by have := h.1; have := h.2; omega) (by decide) (by decide)
def ModC (_ j : Int) : Prop := 0 < j
/-- tracked lists -/
def asK (m : MM) : D → Option (List D)
  | .lst ds => some ds
  | .hnd k => moL m.M[k]?
  | _ => none
theorem asK_ok {K : PySem.W.Frag} {w : Wd} {m : MM} {H : Hp} {d : D} {ds : List D} {v : V} (h : HRep K w m H) (e : asK m d = some ds) (r : Rep K w d v) : ∃ a xs, v = .ref a ∧ H a = some (.lst xs) ∧ RepAll K w ds xs := by
  cases d with
  | lst es => cases e; obtain ⟨a, xs, e, q, r⟩ := r; exact ⟨a, xs, e, h.ext _ _ q, r⟩
  | hnd k =>
    have q := moL_eq e
    obtain ⟨a, e, q2⟩ := r
    obtain ⟨xs, hx, rr⟩ := h.obj k a _ q2 q
    exact ⟨a, xs, e, hx, rr⟩
  | _ => cases e
def rStrA : R2 := fun x y H Q => ∃ i j, x = .str i ∧ y = .str j ∧ i.length + j.length ≤ sizeLine ∧ Q (.str (i ++ j)) H
def rAddAll (K : PySem.W.Frag) : R2 := fun x y H Q => (rI0 fun i j => .int (i + j)) x y H Q ∨ rStrA x y H Q ∨ rCat x y H Q ∨ rCatT K x y H Q
theorem op_addAll {X : Cx} : OpR X (binaryOp .Add) (rAddAll X.K) := op_add.or (op_add_str.or (op_cat.or op_catT))
def oAdd : DO := fun x y m Φ => match x, y with
  | .int i, .int j => Φ (.int (i + j)) m
  | .str i, .str j => i.length + j.length ≤ LIM ∧ Φ (.str (i ++ j)) m
  | .tup xs, .tup ys => xs ≠ [] ∧ ys ≠ [] ∧ xs.length + ys.length ≤ LIM ∧ Φ (.tup (xs ++ ys)) m
  | .lst xs, .lst ys => xs.length + ys.length ≤ LIM ∧ Φ (.lst (xs ++ ys)) m
  | x, y => match asK m x, asK m y with
    | some xs, some ys => xs.length + ys.length ≤ LIM ∧ Φ (.lst (xs ++ ys)) m
    | _, _ => False
theorem cat_ok {K : PySem.W.Frag} {w : Wd} {m : MM} {H : Hp} {x y : D} {xs ys : List D} {u v : V} {Q : VK} {Φ : D → MM → Prop} (h : HRep K w m H) (e1 : asK m x = some xs) (e2 : asK m y = some ys) (r1 : Rep K w x u) (r2 : Rep K w y v) (vl : VLift K w Q Φ)
    (z : xs.length + ys.length ≤ LIM) (q : Φ (.lst (xs ++ ys)) m) : rCat u v H Q := by
  obtain ⟨a, us, rfl, ha, ra⟩ := asK_ok h e1 r1
  obtain ⟨b, vs, rfl, hb, rb⟩ := asK_ok h e2 r2
  refine ⟨a, b, us, vs, rfl, rfl, ha, hb, lim_sz (by rw [ra.length, rb.length]; exact z), fun p hp => ?_⟩
  exact vl _ m _ _ _ (Wd.le_put (h.nof hp)) (h.put hp) (rep_put_lst h hp (ra.append rb)) q
theorem opl_add {K : PySem.W.Frag} : OpL K (rAddAll K) oAdd := fun w m H x y u v Q Φ h r1 r2 vl q => by
  unfold oAdd at q
  split at q
  · exact .inl ⟨_, _, r1, r2, vl.int h q⟩
  · exact .inr (.inl ⟨_, _, r1, r2, lim_sz q.1, vl.str h q.2⟩)
  · obtain ⟨a, us, rfl, ha, ra⟩ := r1
    obtain ⟨b, vs, rfl, hb, rb⟩ := r2
    obtain ⟨q1, q2, q3, q4⟩ := q
    have n1 : us ≠ [] := fun z => by subst z; have := ra.length; exact q1 (List.length_eq_zero_iff.mp this.symm)
    have n2 : vs ≠ [] := fun z => by subst z; have := rb.length; exact q2 (List.length_eq_zero_iff.mp this.symm)
    refine .inr (.inr (.inr ⟨a, b, us, vs, rfl, rfl, .inl (.inl (h.ext _ _ ha)), .inl (.inl (h.ext _ _ hb)), n1, lim_sz (by rw [ra.length, rb.length]; exact q3), fun z => absurd z n2, fun _ p hp => ?_⟩))
    exact vl _ m _ _ _ (Wd.le_put (h.nof hp)) (h.put hp) (rep_put_tup h hp (ra.append rb)) q4
  · exact .inr (.inr (.inl (cat_ok h (x := .lst _) (y := .lst _) rfl rfl r1 r2 vl q.1 q.2)))
  · split at q
    · rename_i e1 e2
      exact .inr (.inr (.inl (cat_ok h e1 e2 r1 r2 vl q.1 q.2)))
    · exact q.elim

/-! equality -/
mutual
def toPy : D → PyData
  | .bl b => .bool b
  | .int i => .int i
  | .str x => .str x
  | .lst ds => .list (toPys ds)
  | .rol ds => .list (toPys ds)
  | .tup ds => .tuple (toPys ds)
  | .rot ds => .tuple (toPys ds)
  | _ => .none
def toPys : List D → List PyData
  | [] => []
  | d :: ds => toPy d :: toPys ds
end
mutual
def okE (n : Nat) : D → Bool
  | .non => true
  | .bl _ => true
  | .int _ => true
  | .str x => PyData.strOk x
  | .lst ds => decide (0 < n) && okEs (n - 1) ds
  | .rol ds => decide (0 < n) && okEs (n - 1) ds
  | .tup ds => decide (0 < n) && okEs (n - 1) ds
  | .rot ds => decide (0 < n) && okEs (n - 1) ds
  | _ => false
def okEs (n : Nat) : List D → Bool
  | [] => true
  | d :: ds => okE n d && okEs n ds
end

section
variable {K : PySem.W.Frag} {w : Wd} {m : MM} {H : Hp}
mutual
theorem dp_of (h : HRep K w m H) : ∀ (d : D) (v : V) (n : Nat), Rep K w d v → okE n d = true → Dp K H v (toPy d)
  | .non, _, _, r, _ => by cases (show _ = V.non from r); exact .non
  | .bl b, _, _, r, _ => by cases (show _ = V.bl b from r); exact .bl b
  | .int i, _, _, r, _ => by cases (show _ = V.int i from r); exact .int i
  | .str x, _, _, r, _ => by cases (show _ = V.str x from r); exact .str x
  | .lst ds, _, n, ⟨a, xs, e, q, r⟩, o => by
    subst e
    have o : (decide (0 < n) && okEs (n - 1) ds) = true := o
    rw [Bool.and_eq_true] at o
    exact .lst (.inl (.inl (h.ext _ _ q))) (dps_of h ds xs (n - 1) r o.2)
  | .rol ds, _, n, ⟨a, xs, e, q, r⟩, o => by
    subst e
    have o : (decide (0 < n) && okEs (n - 1) ds) = true := o
    rw [Bool.and_eq_true] at o
    exact .lst (sql_mono h.ext q) (dps_of h ds xs (n - 1) r o.2)
  | .tup ds, _, n, ⟨a, xs, e, q, r⟩, o => by
    subst e
    have o : (decide (0 < n) && okEs (n - 1) ds) = true := o
    rw [Bool.and_eq_true] at o
    exact .tup (.inl (.inl (h.ext _ _ q))) (dps_of h ds xs (n - 1) r o.2)
  | .rot ds, _, n, ⟨a, xs, e, q, r⟩, o => by
    subst e
    have o : (decide (0 < n) && okEs (n - 1) ds) = true := o
    rw [Bool.and_eq_true] at o
    exact .tup (sqt_mono h.ext q) (dps_of h ds xs (n - 1) r o.2)
  | .ty _, _, _, _, o => nomatch o
  | .cls _, _, _, _, o => nomatch o
  | .hnd _, _, _, _, o => nomatch o
  | .st _, _, _, _, o => nomatch o
  | .exc _ _ _ _, _, _, _, o => nomatch o
theorem dps_of (h : HRep K w m H) : ∀ (ds : List D) (vs : List V) (n : Nat), RepAll K w ds vs → okEs n ds = true → DpAll K H vs (toPys ds)
  | [], _, _, r, _ => by cases (show _ = [] from r); exact .nil
  | d :: ds, _, n, ⟨v, r', e, a, b⟩, o => by
    subst e
    have o : (okE n d && okEs n ds) = true := o
    rw [Bool.and_eq_true] at o
    exact .cons (dp_of h d v n a o.1) (dps_of h ds r' n b o.2)
end
mutual
theorem okE_lay : ∀ (d : D) (n : Nat), okE n d = true → (toPy d).canLay0 = true ∧ (toPy d).depth ≤ n
  | .non, _, _ => ⟨rfl, Nat.zero_le _⟩
  | .bl b, _, _ => ⟨rfl, Nat.zero_le _⟩
  | .int i, _, _ => ⟨rfl, Nat.zero_le _⟩
  | .str x, _, o => ⟨o, Nat.zero_le _⟩
  | .lst ds, n, o => by
    have o : (decide (0 < n) && okEs (n - 1) ds) = true := o
    rw [Bool.and_eq_true] at o
    obtain ⟨h1, h2⟩ := okEs_lay ds (n - 1) o.2
    have h0 := of_decide_eq_true o.1
    exact ⟨h1, by show PyData.depthAll (toPys ds) + 1 ≤ n; omega⟩
  | .rol ds, n, o => by
    have o : (decide (0 < n) && okEs (n - 1) ds) = true := o
    rw [Bool.and_eq_true] at o
    obtain ⟨h1, h2⟩ := okEs_lay ds (n - 1) o.2
    have h0 := of_decide_eq_true o.1
    exact ⟨h1, by show PyData.depthAll (toPys ds) + 1 ≤ n; omega⟩
  | .tup ds, n, o => by
    have o : (decide (0 < n) && okEs (n - 1) ds) = true := o
    rw [Bool.and_eq_true] at o
    obtain ⟨h1, h2⟩ := okEs_lay ds (n - 1) o.2
    have h0 := of_decide_eq_true o.1
    exact ⟨h1, by show PyData.depthAll (toPys ds) + 1 ≤ n; omega⟩
  | .rot ds, n, o => by
    have o : (decide (0 < n) && okEs (n - 1) ds) = true := o
    rw [Bool.and_eq_true] at o
    obtain ⟨h1, h2⟩ := okEs_lay ds (n - 1) o.2
    have h0 := of_decide_eq_true o.1
    exact ⟨h1, by show PyData.depthAll (toPys ds) + 1 ≤ n; omega⟩
  | .ty _, _, o => nomatch o
  | .cls _, _, o => nomatch o
  | .hnd _, _, o => nomatch o
  | .st _, _, o => nomatch o
  | .exc _ _ _ _, _, o => nomatch o
theorem okEs_lay : ∀ (ds : List D) (n : Nat), okEs n ds = true → PyData.canLayAll0 (toPys ds) = true ∧ PyData.depthAll (toPys ds) ≤ n
  | [], _, _ => ⟨rfl, Nat.zero_le _⟩
  | d :: ds, n, o => by
    have o : (okE n d && okEs n ds) = true := o
    rw [Bool.and_eq_true] at o
    obtain ⟨h1, h2⟩ := okE_lay d n o.1
    obtain ⟨h3, h4⟩ := okEs_lay ds n o.2
    refine ⟨?_, ?_⟩
    · show (PyData.canLay0 (toPy d) && PyData.canLayAll0 (toPys ds)) = true
      rw [h1, h3]; rfl
    · show max (PyData.depth (toPy d)) (PyData.depthAll (toPys ds)) ≤ n
      omega
end
theorem okE_shaped {d : D} (o : okE 64 d = true) : SeqAt.shaped (toPy d) = true := by
  obtain ⟨h1, h2⟩ := okE_lay d 64 o
  unfold SeqAt.shaped
  rw [h1, decide_eq_true h2]; rfl
end
/-- == of data -/
def eqD (x y : D) : Bool := PyData.eqv (toPy x) (toPy y)
def oEq : DO := fun x y m Φ => okE 64 x = true ∧ okE 64 y = true ∧ Φ (.bl (eqD x y)) m
def oNe : DO := fun x y m Φ => okE 64 x = true ∧ okE 64 y = true ∧ Φ (.bl (!eqD x y)) m
theorem opl_eq {K : PySem.W.Frag} : OpL K (rEqD K) oEq := fun w m H x y u v Q Φ h r1 r2 vl ⟨o1, o2, q⟩ => ⟨_, _, dp_of h x u 64 r1 o1, dp_of h y v 64 r2 o2, okE_shaped o1, okE_shaped o2, vl.bl h q⟩
theorem opl_ne {K : PySem.W.Frag} : OpL K (rNeD K) oNe := fun w m H x y u v Q Φ h r1 r2 vl ⟨o1, o2, q⟩ => ⟨_, _, dp_of h x u 64 r1 o1, dp_of h y v 64 r2 o2, okE_shaped o1, okE_shaped o2, vl.bl h q⟩
theorem eqD_int {i j : Int} : eqD (.int i) (.int j) = decide (i = j) := by
  show (i == j) = _
  rw [Bool.beq_eq_decide_eq]
theorem eqD_bl {i j : Bool} : eqD (.bl i) (.bl j) = decide (i = j) := by
  show (i == j) = _
  rw [Bool.beq_eq_decide_eq]
theorem eqs_ints : ∀ {xs ys : List Int}, PyData.eqvAll (toPys (xs.map D.int)) (toPys (ys.map D.int)) = decide (xs = ys)
  | [], [] => rfl
  | [], y :: ys => by
    show false = _
    simp
  | x :: xs, [] => by
    show false = _
    simp
  | x :: xs, y :: ys => by
    show ((x == y) && PyData.eqvAll (toPys (xs.map D.int)) (toPys (ys.map D.int))) = _
    rw [eqs_ints, Bool.beq_eq_decide_eq]
    simp
theorem eqD_ints {xs ys : List Int} : eqD (.lst (xs.map D.int)) (.lst (ys.map D.int)) = decide (xs = ys) := eqs_ints
theorem okEs_ints {n : Nat} : ∀ {xs : List Int}, okEs n (xs.map D.int) = true
  | [] => rfl
  | x :: xs => by
    show (true && okEs n (xs.map D.int)) = true
    rw [okEs_ints]; rfl
theorem okE_ints {n : Nat} {xs : List Int} : okE (n + 1) (.lst (xs.map D.int)) = true := by
  show (decide (0 < n + 1) && okEs (n + 1 - 1) (xs.map D.int)) = true
  rw [okEs_ints]; simp
/-- is None -/
def isNon : D → Option Bool
  | .non => some true
  | .bl _ => some false
  | .int _ => some false
  | .str _ => some false
  | .lst _ => some false
  | .tup _ => some false
  | .rol _ => some false
  | .rot _ => some false
  | .hnd _ => some false
  | _ => none
def oIsN : DO := fun x y m Φ => match isNon x, y with
  | some b, .non => Φ (.bl b) m
  | _, _ => False
def oNotN : DO := fun x y m Φ => match isNon x, y with
  | some b, .non => Φ (.bl (!b)) m
  | _, _ => False
theorem isNon_ok {K : PySem.W.Frag} {w : Wd} {x : D} {v : V} {b : Bool} (e : isNon x = some b) (r : Rep K w x v) : decide (v = .non) = b := by
  cases x with
  | non => cases e; cases (show v = .non from r); rfl
  | bl c => cases e; cases (show v = .bl c from r); rfl
  | int c => cases e; cases (show v = .int c from r); rfl
  | str c => cases e; cases (show v = .str c from r); rfl
  | lst c => cases e; obtain ⟨a, _, rfl, _⟩ := r; rfl
  | tup c => cases e; obtain ⟨a, _, rfl, _⟩ := r; rfl
  | rol c => cases e; obtain ⟨a, _, rfl, _⟩ := r; rfl
  | rot c => cases e; obtain ⟨a, _, rfl, _⟩ := r; rfl
  | hnd c => cases e; obtain ⟨a, rfl, _⟩ := r; rfl
  | _ => cases e
theorem opl_notN {K : PySem.W.Frag} : OpL K (fun x y H Q => y = .non ∧ Q (.bl (!decide (x = .non))) H) oNotN := fun w m H x y u v Q Φ h r1 r2 vl q => by
  unfold oNotN at q
  split at q
  · rename_i b e
    exact ⟨r2, vl.bl h (by rw [isNon_ok e r1]; exact q)⟩
  · exact q.elim
/-! subscripts -/
def oIx : DO := fun x y m Φ => match x, y with
  | .str z, .int i => z.length ≤ LIM ∧ ∃ c, atI z.cps.toList i = some c ∧ Φ (.str ⟨#[c]⟩) m
  | x, .int i => match asL m x with
    | some ds => ∃ d, atI ds i = some d ∧ Φ d m
    | none => match asT x with
      | some ds => ∃ d, atI ds i = some d ∧ Φ d m
      | none => False
  | _, _ => False
theorem atI_rep {K : PySem.W.Frag} {w : Wd} {ds : List D} {vs : List V} {i : Int} {d : D} (r : RepAll K w ds vs) (e : atI ds i = some d) : ∃ v, atI vs i = some v ∧ Rep K w d v := by
  unfold atI at e ⊢
  rw [r.length]
  cases q : ixN ds.length i with
  | none => rw [q] at e; cases e
  | some j => rw [q] at e; exact r.get e
theorem opl_ix {K : PySem.W.Frag} : OpL K (rIx K) oIx := fun w m H x y u v Q Φ h r1 r2 vl q => by
  unfold oIx at q
  split at q
  · obtain ⟨z, c, e, q⟩ := q
    exact .inr (.inr ⟨_, _, c, r1, r2, lim_sz z, e, vl.str h q⟩)
  · split at q
    · rename_i e
      obtain ⟨d, e2, q⟩ := q
      obtain ⟨a, us, rfl, ha, ra⟩ := asL_ok h e r1
      obtain ⟨v', e3, rd⟩ := atI_rep ra e2
      exact .inl ⟨a, us, _, v', rfl, r2, ha, e3, vl d m w H v' (.refl w) h rd q⟩
    · split at q
      · rename_i e
        obtain ⟨d, e2, q⟩ := q
        obtain ⟨a, us, rfl, ha, ra⟩ := asT_ok h e r1
        obtain ⟨v', e3, rd⟩ := atI_rep ra e2
        exact .inr (.inl ⟨a, us, _, v', rfl, r2, ha, e3, vl d m w H v' (.refl w) h rd q⟩)
      · exact q.elim
  · exact q.elim
section
variable {X : Cx} {E : WX} {a b c : Expr} {Wa Wb Wc : DE} {pos : Pos}
theorem je_ix (ha : JE X E a Wa) (hb : JE X E b Wb) (hs : PlainIx b := by exact fun _ _ => rfl) : JE X E (.Subscript a b pos) (dOp oIx Wa Wb) := PE.imp (pe_ix ix_seq ha hb hs) fun _ _ _ h => dOp_ok opl_ix h
/-- xs[lo:hi] -/
abbrev DPt := Env → MM → (Option Int → MM → Prop) → XP → Prop
theorem PO.imp {e : Option Expr} {t t' : TO} (h : PO X e t) (i : ∀ σ H Q, t' σ H Q → t σ H Q) : PO X e t' := ⟨fun pins s σ H Q I q => h.run pins s σ H Q I (i σ H Q q)⟩
def dpN : DPt := fun _ m Φ _ => Φ none m
def dpS (e : DE) : DPt := fun ρ m Φ Ψ => e ρ m (fun d m1 => match d with
  | .int i => Φ (some i) m1
  | _ => False) Ψ
def cutD (xs : List D) (lo hi : Option Int) : List D := (xs.drop (HT.sIx xs.length 0 lo)).take (HT.sIx xs.length xs.length hi - HT.sIx xs.length 0 lo)
def dSl (a : DE) (lo hi : DPt) : DE := fun ρ m Φ Ψ => a ρ m (fun d m1 => lo ρ m1 (fun l m2 => hi ρ m2 (fun u m3 => match asL m3 d with
  | some ds => Φ (.lst (cutD ds l u)) m3
  | none => False) Ψ) Ψ) Ψ
end
end Dl

namespace Dl
open PySem L2 PyProof.Rows

/-! ### comprehensions -/
abbrev XF : XP := fun _ _ _ => False
abbrev EF : WX := fun _ _ _ _ => False
def wipeD (ρ : Env) : List Nat → Env
  | [] => ρ
  | v :: vs => (wipeD ρ vs).set v none
theorem Slots.wipes {K : PySem.W.Frag} {w : Wd} {σ : L2.St} {ρ : Env} (h : Slots K w σ ρ) : ∀ vs, Slots K w (L2.wipe σ vs) (wipeD ρ vs)
  | [] => h
  | v :: vs => (Slots.wipes h vs).wipe v
def lcW (g : DG) (tt : DT) (te : DE) (ρ : Env) (Φ : D → MM → Prop) : List D → List D → MM → Prop
  | [], acc, m => Φ (.lst acc) m
  | d :: ds, acc, m => g d ρ (m.push (.lst acc)) fun ρ1 m1 => m1 = m.push (.lst acc) ∧ tt ρ1 (m.push (.lst acc)) (fun b m2 => m2 = m.push (.lst acc) ∧ if b = true then
      te ρ1 (m.push (.lst acc)) (fun y m3 => m3 = m.push (.lst acc) ∧ acc.length < LIM ∧ clD m.M.length y = true ∧ lcW g tt te ρ Φ ds (acc ++ [y]) m) XF
    else lcW g tt te ρ Φ ds acc m) XF
def dLc (it : DI) (g : DG) (tt : DT) (te : DE) (vs : List Nat) : DE := fun ρ m Φ Ψ => it ρ m (fun ds m1 => lcW g tt te (wipeD ρ vs) Φ ds [] m1) Ψ
def dYes : DT := fun _ m Φ _ => Φ true m
theorem xlift_F {K : PySem.W.Frag} {w : Wd} {E : WX} {σ : L2.St} : XLift K w E σ XF := fun _ _ _ _ _ _ _ _ _ _ _ q => q.elim
theorem clAll_app {n : Nat} : ∀ {xs ys : List D}, clAll n xs = true → clAll n ys = true → clAll n (xs ++ ys) = true
  | [], ys, _, h => h
  | x :: xs, ys, h, g => by
    have h : (clD n x && clAll n xs) = true := h
    rw [Bool.and_eq_true] at h
    show (clD n x && clAll n (xs ++ ys)) = true
    rw [h.1, clAll_app h.2 g]; rfl
theorem lc_ok {K : PySem.W.Frag} {E : WX} {wi : DI} {g : DG} {tt : DT} {te : DE} {vs : List Nat} {σ : L2.St} {H : Hp} {Q : VK} (h : lift K E (dLc wi g tt te vs) σ H Q) : tLc (liftI K E wi) (liftG K vs g) (liftT K EF tt) (lift K EF te) vs σ H Q := by
  obtain ⟨w, ρ, m, Ψ, Φ, a, vl, h⟩ := h
  refine ⟨w, ρ, m, Ψ, _, a, fun ds m1 w1 H1 J l1 h1 wk q1 => ?_, h⟩
  intro D hD
  refine ⟨fun i k H => k = ds.length - i ∧ i ≤ ds.length ∧ ∃ w' acc, w1.le w' ∧ HRep K w' (m1.push (.lst acc)) H ∧ w'.th[m1.M.length]? = some D ∧ clAll m1.M.length acc = true ∧ lcW g tt te (wipeD ρ vs) Φ (ds.drop i) acc m1, ⟨ds.length, by omega, Nat.zero_le _, w1.add D, [], Wd.le_add, h1.add hD ⟨[], upd_same, rfl⟩, ?_, rfl, q1⟩, ?_⟩
  · show (w1.th ++ [D])[m1.M.length]? = some D
    rw [← h1.len, List.getElem?_append_right (Nat.le_refl _)]; simp
  rintro i k H2 ⟨rfl, hi, w2, acc, l2, h2, hD2, hcl, q2⟩
  by_cases hlt : i < ds.length
  · have ed : ds[i]? = some ds[i] := List.getElem?_eq_getElem hlt
    have dr : ds.drop i = ds[i] :: ds.drop (i + 1) := List.drop_eq_getElem_cons hlt
    rw [dr] at q2
    refine .inr ⟨wk.go w2 _ H2 i _ l2 h2 ed, fun H' => ∃ w' acc, w1.le w' ∧ HRep K w' (m1.push (.lst acc)) H' ∧ w'.th[m1.M.length]? = some D ∧ clAll m1.M.length acc = true ∧ lcW g tt te (wipeD ρ vs) Φ (ds.drop (i + 1)) acc m1, fun H' z => ⟨ds.length - (i + 1), by omega, rfl, hlt, z⟩, fun x H3 y => ?_⟩
    obtain ⟨w3, l3, h3, r3⟩ := wk.yld w2 _ H2 i _ x H3 l2 h2 ed y
    have s3 : Slots K w3 (wipe σ vs) (wipeD ρ vs) := ((a.s.mono l1).mono (l2.trans l3)).wipes vs
    refine ⟨w3, wipeD ρ vs, _, ds[i], _, h3, s3, r3, fun ρ' m' w' H' σ' l h' s' e q => ⟨e.trans wipe_wipe, ?_⟩, q2⟩
    obtain ⟨rfl, q⟩ := q
    refine ⟨w', ρ', _, XF, _, ⟨h', s', xlift_F⟩, fun b m4 w4 H4 l4 h4 q4 => ?_, q⟩
    obtain ⟨rfl, q4⟩ := q4
    have l24 : w2.le w4 := l3.trans (l.trans l4)
    cases b with
    | true =>
      rw [if_pos rfl] at q4
      show (if true = true then _ else _)
      rw [if_pos rfl]
      refine ⟨w4, ρ', _, XF, _, ⟨h4, s'.mono l4, xlift_F⟩, fun y m5 w5 H5 v l5 h5 r5 q5 => ?_, q4⟩
      obtain ⟨rfl, hz, hy, q5⟩ := q5
      have hD5 : w5.th[m1.M.length]? = some D := l5.th _ _ (l24.th _ _ hD2)
      have hM : (m1.push (.lst acc)).M[m1.M.length]? = some (.lst acc) := by
        show (m1.M ++ [MO.lst acc])[m1.M.length]? = _
        rw [List.getElem?_append_right (Nat.le_refl _)]; simp
      obtain ⟨xs, hx, r⟩ := h5.obj _ D _ hD5 hM
      refine ⟨xs, hx, lim_lt (by rw [r.length]; exact hz), w5, acc ++ [y], l2.trans (l24.trans l5), ?_, hD5, clAll_app hcl (by show (clD _ y && true) = true; rw [hy]; rfl), q5⟩
      have z := h5.wr (ho := .lst (xs ++ [v])) (o' := .lst (acc ++ [y])) hD5 hM (fun z => by cases z) ⟨_, upd_same, r.append ⟨v, [], rfl, r5, rfl⟩⟩
      have e : (m1.push (.lst acc)).M.set m1.M.length (.lst (acc ++ [y])) = (m1.push (.lst (acc ++ [y]))).M := by
        show (m1.M ++ [MO.lst acc]).set m1.M.length (.lst (acc ++ [y])) = m1.M ++ [MO.lst (acc ++ [y])]
        rw [List.set_append_right _ _ (Nat.le_refl _)]; simp
      rw [e] at z
      exact z
    | false =>
      rw [if_neg Bool.false_ne_true] at q4
      show (if false = true then _ else _)
      rw [if_neg Bool.false_ne_true]
      exact ⟨w4, acc, l2.trans l24, h4, l24.th _ _ hD2, hcl, q4⟩
  · have e : i = ds.length := by omega
    subst e
    rw [List.drop_length] at q2
    refine .inl ⟨wk.stop w2 _ H2 l2 h2, ?_⟩
    have hM : (m1.push (.lst acc)).M[m1.M.length]? = some (.lst acc) := by
      show (m1.M ++ [MO.lst acc])[m1.M.length]? = _
      rw [List.getElem?_append_right (Nat.le_refl _)]; simp
    obtain ⟨xs, fD, hx, r, hf⟩ := h2.frz hD2 hM
    have et : ((m1.push (.lst acc)).M.set m1.M.length .dead).take m1.M.length = m1.M := by
      show ((m1.M ++ [MO.lst acc]).set m1.M.length .dead).take m1.M.length = m1.M
      rw [List.set_append_right _ _ (Nat.le_refl _), List.take_left']
      rfl
    have hc := hf.cut (n := m1.M.length) (fun o ho => by
      have ho : o ∈ ((m1.push (.lst acc)).M.set m1.M.length .dead).take m1.M.length := ho
      rw [et] at ho
      exact h1.cls o ho)
    have em : (MM.cut ⟨(m1.push (.lst acc)).M.set m1.M.length .dead, (m1.push (.lst acc)).s⟩ m1.M.length) = m1 := by
      show (⟨((m1.push (.lst acc)).M.set m1.M.length .dead).take m1.M.length, m1.s⟩ : MM) = m1
      rw [et]
    rw [em] at hc
    have lc : w1.le ((w2.put D (.lst xs)).cut m1.M.length) := Wd.le_cut (l2.trans (Wd.le_put fD)) (Nat.le_of_eq h1.len)
    refine vl (.lst acc) m1 _ H2 _ (l1.trans lc) hc ?_ q2
    exact ⟨D, xs, rfl, upd_same, RepAll.cut _ _ (RepAll.mono (Wd.le_put fD) _ _ r) hcl⟩
section
variable {X : Cx} {E : WX} {a b c : Expr} {Wa Wb Wc : DE} {pos : Pos}
theorem jts_nil {K : PySem.W.Frag} : PTs X [] (liftT K E dYes) := ⟨fun pins s σ H Q I ⟨w, ρ, m, Ψ, Φ, a, n, h⟩ => pts_nil.run pins s σ H Q I (n true m w H (.refl w) a.h h)⟩
theorem jts_one {tc : DT} (h : JT X E c tc) : PTs X [c] (liftT X.K E tc) := pts_one h
theorem je_lc {elt tg iter : Expr} {ifs : List Expr} {scope : Scope} {own : List (Str × Nat)} {pos : Pos} {wi : DI} {g : DG} {tt : DT} {te : DE} (hc : X.calm = true) (hN : X.N.Nodup) (hi : JI X E tg iter wi) (ok : BlkOk X.N X.env.scope scope own)
    (hg : ∀ (s : Shared) (H : Hp) (C : Addr) (cl : List (Str × Addr)) (fp : List Addr), PG (X.blk s H scope (compEnvC scope cl C X.env) fp) tg (liftG X.K (own.map (·.2)) g))
    (ht : ∀ (s : Shared) (H : Hp) (C : Addr) (cl : List (Str × Addr)) (fp : List Addr), PTs (X.blk s H scope (compEnvC scope cl C X.env) fp) ifs (liftT X.K EF tt))
    (he : ∀ (s : Shared) (H : Hp) (C : Addr) (cl : List (Str × Addr)) (fp : List Addr), JE (X.blk s H scope (compEnvC scope cl C X.env) fp) EF elt te) (hs : ∀ x, foldedSetIterable iter X.env x = pure x := by intro _; rfl) :
    JE X E (.ListComp elt [⟨tg, iter, ifs, 0⟩] scope pos) (dLc wi g tt te (own.map (·.2))) := PE.imp (pe_lc hc hN hi ok hg ht he hs) fun _ _ _ h => lc_ok h
/-- y = [..] -/
theorem js_setLc (i : Nat) {y : Str} {py : Pos} {elt tg iter : Expr} {ifs : List Expr} {scope : Scope} {own : List (Str × Nat)} {pos spos : Pos} {wi : DI} {g : DG} {tt : DT} {te : DE} (hc : X.calm = true) (hN : X.N.Nodup) (hy : X.N[i]? = some y) (hyl : X.env.scope.names.lookup y = some .local)
    (hsw : swapsWith (.ListComp elt [⟨tg, iter, ifs, 0⟩] scope pos) (some (.Name y py)) spos.line X.env = pure true) (hi : JI X E tg iter wi) (ok : BlkOk X.N X.env.scope scope own)
    (hg : ∀ (s : Shared) (H : Hp) (C : Addr) (cl : List (Str × Addr)) (fp : List Addr), PG (X.blk s H scope (compEnvC scope cl C X.env) fp) tg (liftG X.K (own.map (·.2)) g))
    (ht : ∀ (s : Shared) (H : Hp) (C : Addr) (cl : List (Str × Addr)) (fp : List Addr), PTs (X.blk s H scope (compEnvC scope cl C X.env) fp) ifs (liftT X.K EF tt))
    (he : ∀ (s : Shared) (H : Hp) (C : Addr) (cl : List (Str × Addr)) (fp : List Addr), JE (X.blk s H scope (compEnvC scope cl C X.env) fp) EF elt te) (hs : ∀ x, foldedSetIterable iter X.env x = pure x := by intro _; rfl) :
    JS X E (.Assign [.Name y py] (.ListComp elt [⟨tg, iter, ifs, 0⟩] scope pos) spos) (dSet i (dLc wi g tt te (own.map (·.2)))) := PS.imp (ps_setLc hc hN hy hyl hsw hi ok hg ht he hs) fun D σ H ⟨w, ρ, m, Ψ, N, a, n, h⟩ => by
  refine lc_ok (E := E) ⟨w, ρ, m, Ψ ρ, _, a.at, fun d m1 w1 H1 v l1 h1 r1 q1 => ?_, h⟩
  exact n.nx _ m1 w1 H1 _ l1 h1 ((a.s.mono l1).set i r1) q1

/-! ### calls of built-ins -/
abbrev DCB := List D → MM → (D → MM → Prop) → Prop
def CbL (K : PySem.W.Frag) (r : List V → Hp → VK → Prop) (c : DCB) : Prop := ∀ w m H ds vs Q Φ, HRep K w m H → RepAll K w ds vs → VLift K w Q Φ → c ds m Φ → r vs H Q
def dCB (c : DCB) (r : DA) : DE := fun ρ m Φ Ψ => r ρ m (fun ds m1 => c ds m1 Φ) Ψ
variable {e : Expr} {es : List Expr} {x : Str} {p : Pos} {Ws : DA} {r : List V → Hp → VK → Prop} {cb : DCB}
theorem je_callB {id : String} (hc : CallR X (.builtin id) r) (hl : CbL X.K r cb) (hg : Gl X x) (hm : X.mg x = none) (hv : bootBuiltins x = some (.builtin id)) (ha : JA X E (e :: es) Ws) (hn : x ≠ "__name__" := by decide) (hdb : (x == ("__debug__" : Str)) = false := by decide)
    (he : starEach (e :: es) X.env = (false, eval e X.env) :: starEach es X.env := by rfl) (hpl : (backTo pos (starEach es X.env)).any (·.1) = false := by rfl) : JE X E (.Call (.Name x p) (e :: es) [] pos) (dCB cb Ws) :=
  PE.imp (pe_callB hc hg hm hv ha hn hdb he hpl) fun σ H Q ⟨w, ρ, m, Ψ, Φ, a, vl, h⟩ => ⟨w, ρ, m, Ψ, _, a, fun ds m1 w1 H1 vs l1 h1 r1 q1 => hl w1 m1 H1 ds vs Q Φ h1 r1 (vl.mono l1) q1, h⟩
theorem je_callTy {T : String} (hc : CallR X (.type T) r) (hl : CbL X.K r cb) (hg : Gl X x) (hm : X.mg x = none) (hv : bootBuiltins x = some (.type T)) (ha : JA X E (e :: es) Ws) (hn : x ≠ "__name__" := by decide) (hdb : (x == ("__debug__" : Str)) = false := by decide)
    (he : starEach (e :: es) X.env = (false, eval e X.env) :: starEach es X.env := by rfl) (hpl : (backTo pos (starEach es X.env)).any (·.1) = false := by rfl) : JE X E (.Call (.Name x p) (e :: es) [] pos) (dCB cb Ws) :=
  PE.imp (pe_callTy hc hg hm hv ha hn hdb he hpl) fun σ H Q ⟨w, ρ, m, Ψ, Φ, a, vl, h⟩ => ⟨w, ρ, m, Ψ, _, a, fun ds m1 w1 H1 vs l1 h1 r1 q1 => hl w1 m1 H1 ds vs Q Φ h1 r1 (vl.mono l1) q1, h⟩
end
def cLen : DCB := fun ds m Φ => match ds with
  | [.str z] => z.length ≤ LIM ∧ Φ (.int z.length) m
  | [d] => match asL m d with
    | some xs => Φ (.int xs.length) m
    | none => match asT d with
      | some xs => Φ (.int xs.length) m
      | none => False
  | _ => False
theorem cbl_len {K : PySem.W.Frag} : CbL K (fun xs H Q => ∃ x n, xs = [x] ∧ LenV K x H n ∧ Q (.int n) H) cLen := fun w m H ds vs Q Φ h r vl q => by
  unfold cLen at q
  split at q
  · obtain ⟨v, rfl, rv⟩ := rep1 r
    cases (show v = V.str _ from rv)
    exact ⟨_, _, rfl, ⟨lim_sz q.1, rfl⟩, vl.int h q.2⟩
  · obtain ⟨v, rfl, rv⟩ := rep1 r
    split at q
    · rename_i e
      obtain ⟨a, us, rfl, ha, ra⟩ := asL_ok h e rv
      exact ⟨_, _, rfl, .inl ⟨us, ha, rfl⟩, vl.int h (by rw [ra.length]; exact q)⟩
    · split at q
      · rename_i e
        obtain ⟨a, us, rfl, ha, ra⟩ := asT_ok h e rv
        exact ⟨_, _, rfl, .inr ⟨us, ha, rfl⟩, vl.int h (by rw [ra.length]; exact q)⟩
      · exact q.elim
  · exact q.elim
def cInt : DCB := fun ds m Φ => match ds with
  | [.int i] => Φ (.int i) m
  | [.bl b] => Φ (.int (if b then 1 else 0)) m
  | _ => False
theorem cbl_int {K : PySem.W.Frag} : CbL K (fun xs H Q => (∃ i, xs = [V.int i] ∧ Q (.int i) H) ∨ ∃ k, xs = [V.bl k] ∧ Q (.int (if k then 1 else 0)) H) cInt := fun w m H ds vs Q Φ h r vl q => by
  unfold cInt at q
  split at q
  · obtain ⟨v, rfl, rv⟩ := rep1 r
    cases (show v = V.int _ from rv)
    exact .inl ⟨_, rfl, vl.int h q⟩
  · obtain ⟨v, rfl, rv⟩ := rep1 r
    cases (show v = V.bl _ from rv)
    exact .inr ⟨_, rfl, vl.int h q⟩
  · exact q.elim
def cAbs : DCB := fun ds m Φ => match ds with
  | [.int i] => Φ (.int (if i < 0 then -i else i)) m
  | _ => False
theorem cbl_abs {K : PySem.W.Frag} : CbL K (fun xs H Q => ∃ i, xs = [V.int i] ∧ Q (.int (if i < 0 then -i else i)) H) cAbs := fun w m H ds vs Q Φ h r vl q => by
  unfold cAbs at q
  split at q
  · obtain ⟨v, rfl, rv⟩ := rep1 r
    cases (show v = V.int _ from rv)
    exact ⟨_, rfl, vl.int h q⟩
  · exact q.elim
def intsD : List D → Option (List Int)
  | [] => some []
  | .int i :: r => (intsD r).map (i :: ·)
  | _ => none
theorem ints_ok {K : PySem.W.Frag} {w : Wd} : ∀ {ds : List D} {vs : List V} {ns : List Int}, intsD ds = some ns → RepAll K w ds vs → vs = ns.map V.int
  | [], vs, ns, e, r => by cases e; exact r
  | d :: ds, vs, ns, e, r => by
    obtain ⟨v, r', rfl, rv, rr⟩ := r
    cases d with
    | int i =>
      have e : (intsD ds).map (i :: ·) = some ns := e
      cases q : intsD ds with
      | none => rw [q] at e; cases e
      | some ns' =>
        rw [q] at e; cases e
        cases (show v = V.int i from rv)
        rw [ints_ok q rr]; rfl
    | _ => cases e
theorem ints_map : ∀ (ns : List Int), intsD (ns.map D.int) = some ns
  | [] => rfl
  | n :: ns => by
    show (intsD (ns.map D.int)).map (n :: ·) = _
    rw [ints_map ns]; rfl
def cSum : DCB := fun ds m Φ => match ds with
  | [d] => match asL m d with
    | some xs => ∃ ns, intsD xs = some ns ∧ Φ (.int ns.sum) m
    | none => False
  | _ => False
def cMax2 : DCB := fun ds m Φ => match ds with
  | [.int i, .int j] => Φ (.int (if j > i then j else i)) m
  | _ => False
def cMin2 : DCB := fun ds m Φ => match ds with
  | [.int i, .int j] => Φ (.int (if j < i then j else i)) m
  | _ => False
theorem cbl_max2 {K : PySem.W.Frag} : CbL K (fun xs H Q => ∃ i j, xs = [V.int i, V.int j] ∧ Q (.int (if j > i then j else i)) H) cMax2 := fun w m H ds vs Q Φ h r vl q => by
  unfold cMax2 at q
  split at q
  · obtain ⟨v, u, rfl, rv, ru⟩ := rep2 r
    cases (show v = V.int _ from rv)
    cases (show u = V.int _ from ru)
    exact ⟨_, _, rfl, vl.int h q⟩
  · exact q.elim
theorem cbl_min2 {K : PySem.W.Frag} : CbL K (fun xs H Q => ∃ i j, xs = [V.int i, V.int j] ∧ Q (.int (if j < i then j else i)) H) cMin2 := fun w m H ds vs Q Φ h r vl q => by
  unfold cMin2 at q
  split at q
  · obtain ⟨v, u, rfl, rv, ru⟩ := rep2 r
    cases (show v = V.int _ from rv)
    cases (show u = V.int _ from ru)
    exact ⟨_, _, rfl, vl.int h q⟩
  · exact q.elim
/-- list(x): a new list, frozen or changing -/
def cList : DCB := fun ds m Φ => match ds with
  | [d] => match asL m d with
    | some xs => Φ (.lst xs) m
    | none => match asT d with
      | some xs => Φ (.lst xs) m
      | none => False
  | _ => False
theorem cbl_list {K : PySem.W.Frag} : CbL K (fun xs H Q => ∃ p ys, xs = [V.ref p] ∧ (SqL K H p ys ∨ SqT K H p ys) ∧ ∀ l, H l = none → Q (.ref l) (upd H l (.lst ys))) cList := fun w m H ds vs Q Φ h r vl q => by
  unfold cList at q
  split at q
  · obtain ⟨v, rfl, rv⟩ := rep1 r
    split at q
    · rename_i e
      obtain ⟨a, us, rfl, ha, ra⟩ := asL_ok h e rv
      exact ⟨a, us, rfl, .inl ha, fun l hl => vl.newL h hl ra q⟩
    · split at q
      · rename_i e
        obtain ⟨a, us, rfl, ha, ra⟩ := asT_ok h e rv
        exact ⟨a, us, rfl, .inr ha, fun l hl => vl.newL h hl ra q⟩
      · exact q.elim
  · exact q.elim
end Dl

namespace Dl
open PySem L2 PyProof.Rows

/-! ### isinstance -/
def tyD (m : MM) : D → Option String
  | .non => some "NoneType"
  | .bl _ => some "bool"
  | .int _ => some "int"
  | .str _ => some "str"
  | .lst _ => some "list"
  | .tup _ => some "tuple"
  | .hnd k => (moL m.M[k]?).map fun _ => "list"
  | _ => none
def cIsi : DCB := fun ds m Φ => match ds with
  | [x, .ty n] => match (tyD m x).bind fun t => kitB t n with
    | some b => Φ (.bl b) m
    | none => False
  | _ => False
section
variable {X : Cx} {E : WX} {a b c : Expr} {Wa Wb Wc : DE} {pos : Pos} {e : Expr} {es : List Expr} {Ws : DA}
/-! ### methods of lists -/
def dMethL (c : D → List D → MM → (D → MM → Prop) → Prop) (o : DE) (r : DA) : DE := fun ρ m Φ Ψ => o ρ m (fun x m1 => (asL m1 x).isSome = true ∧ r ρ m1 (fun ds m2 => c x ds m2 Φ) Ψ) Ψ
def MtL (K : PySem.W.Frag) (r : V → List V → Hp → VK → Prop) (c : D → List D → MM → (D → MM → Prop) → Prop) : Prop := ∀ w m H x ds u vs Q Φ, HRep K w m H → Rep K w x u → RepAll K w ds vs → VLift K w Q Φ → c x ds m Φ → r u vs H Q
theorem tyL_ok {K : PySem.W.Frag} {w : Wd} {m : MM} {H : Hp} {d : D} {v : V} (h : HRep K w m H) (e : (asL m d).isSome = true) (r : Rep K w d v) : tyV K "list" v H := by
  obtain ⟨ds, e⟩ := Option.isSome_iff_exists.mp e
  obtain ⟨a, xs, rfl, q, _⟩ := asL_ok h e r
  exact .inl ⟨rfl, xs, q⟩
theorem je_mL {name : Str} {id : String} {r : V → List V → Hp → VK → Prop} {c : D → List D → MM → (D → MM → Prop) → Prop} {apos cpos : Pos} {o : Expr} {Wo : DE} (slot : Slot "list" name id) (hty : typeOf (.builtin id) = pure (.type "method_descriptor")) (hm : MtR X id r) (hl : MtL X.K r c) (ho : JE X E o Wo) (ha : JA X E (e :: es) Ws)
    (hbase : attributeBase o name X.env (eval o X.env) = eval o X.env := by rfl)
    (hfew : ((backTo cpos (starEach (e :: es) X.env)).all (fun x => !x.1) && (backToKw cpos (keywordEach [] X.env)).all (fun x => x.1.isSome)
      && decide ((e :: es).length + ([] : List Keyword).length + (if ([] : List Keyword).isEmpty then 0 else 1) < 30)) = true := by rfl)
    (hline : (apos.endLine == cpos.line) = true := by rfl) (hs : starEach (e :: es) X.env = (false, eval e X.env) :: starEach es X.env := by rfl) (hplain : (backTo cpos (starEach es X.env)).any (·.1) = false := by rfl) :
    JE X E (.Call (.Attribute o name apos) (e :: es) [] cpos) (dMethL c Wo Ws) := PE.imp (pe_bm PySem.F.plainAttrs_list slot hty hm ho ha hbase hfew hline hs hplain) fun σ H Q ⟨w, ρ, m, Ψ, Φ, a, vl, h⟩ => by
  refine ⟨w, ρ, m, Ψ, _, a, fun d m1 w1 H1 v l1 h1 r1 q1 => ?_, h⟩
  refine ⟨tyL_ok h1 q1.1 r1, w1, ρ, m1, Ψ, _, a.to l1 h1, fun ds m2 w2 H2 vs l2 h2 r2 q2 => ?_, q1.2⟩
  exact hl w2 m2 H2 d ds v vs Q Φ h2 (Rep.mono l2 _ _ r1) r2 (vl.mono (l1.trans l2)) q2
end
theorem VLift.wr {K : PySem.W.Frag} {w : Wd} {m : MM} {H : Hp} {Q : VK} {Φ : D → MM → Prop} {k : Nat} {a : Addr} {ds ds' : List D} {xs' : List V} {d : D} {v : V} (vl : VLift K w Q Φ) (h : HRep K w m H) (e : w.th[k]? = some a) (eo : m.M[k]? = some (.lst ds)) (r : RepAll K w ds' xs')
    (rd : Rep K w d v) (q : Φ d ⟨m.M.set k (.lst ds'), m.s⟩) : Q v (upd H a (.lst xs')) :=
  vl d _ w _ v (.refl w) (h.wr (o' := .lst ds') e eo (fun z => by cases z) ⟨xs', upd_same, r⟩) rd q
def oApp : D → List D → MM → (D → MM → Prop) → Prop := fun x ds m Φ => match x, ds with
  | .hnd k, [y] => match moL m.M[k]? with
    | some xs => xs.length < LIM ∧ Φ .non ⟨m.M.set k (.lst (xs ++ [y])), m.s⟩
    | none => False
  | _, _ => False
theorem mtl_app {K : PySem.W.Frag} : MtL K rAppend oApp := fun w m H x ds u vs Q Φ h r rs vl q => by
  unfold oApp at q
  split at q
  · split at q
    · rename_i k y _ xs e
      obtain ⟨a, rfl, q2⟩ := r
      obtain ⟨v, rfl, rv⟩ := rep1 rs
      obtain ⟨us, hx, ru⟩ := h.obj k a _ q2 (moL_eq e)
      exact ⟨a, us, v, rfl, rfl, hx, lim_lt (by rw [ru.length]; exact q.1), vl.wr (ds' := xs ++ [y]) (d := .non) h q2 (moL_eq e) (ru.append ⟨v, [], rfl, rv, rfl⟩) rfl q.2⟩
    · exact q.elim
  · exact q.elim
def oPop : D → List D → MM → (D → MM → Prop) → Prop := fun x ds m Φ => match x, ds with
  | .hnd k, [] => match moL m.M[k]? with
    | some xs => ∃ y, xs[xs.length - 1]? = some y ∧ Φ y ⟨m.M.set k (.lst xs.dropLast), m.s⟩
    | none => False
  | _, _ => False
theorem RepAll.dropLast {K : PySem.W.Frag} {w : Wd} {ds : List D} {vs : List V} (r : RepAll K w ds vs) : RepAll K w ds.dropLast vs.dropLast := by
  rw [List.dropLast_eq_take, List.dropLast_eq_take, r.length]
  exact r.take _
theorem RepAll.eraseIdx {K : PySem.W.Frag} {w : Wd} {ds : List D} {vs : List V} (r : RepAll K w ds vs) (i : Nat) : RepAll K w (ds.eraseIdx i) (vs.eraseIdx i) := by
  rw [List.eraseIdx_eq_take_drop_succ, List.eraseIdx_eq_take_drop_succ]
  exact (r.take i).append (r.drop (i + 1))
def oPopAt : D → List D → MM → (D → MM → Prop) → Prop := fun x ds m Φ => match x, ds with
  | .hnd k, [.int i] => match moL m.M[k]? with
    | some xs => (-(2 ^ 63) ≤ i ∧ i < 2 ^ 63) ∧ ∃ j y, seqIndex? i xs.length = some j ∧ xs[j]? = some y ∧ Φ y ⟨m.M.set k (.lst (xs.eraseIdx j)), m.s⟩
    | none => False
  | _, _ => False
theorem mtl_popAt {K : PySem.W.Frag} : MtL K rPopAt oPopAt := fun w m H x ds u vs Q Φ h r rs vl q => by
  unfold oPopAt at q
  split at q
  · split at q
    · rename_i k i _ xs e
      obtain ⟨a, rfl, q2⟩ := r
      obtain ⟨v0, rfl, r0⟩ := rep1 rs
      cases (show v0 = V.int i from r0)
      obtain ⟨us, hx, ru⟩ := h.obj k a _ q2 (moL_eq e)
      obtain ⟨q1, j, y, ej, ey, q⟩ := q
      obtain ⟨v, ev, rv⟩ := ru.get ey
      exact ⟨a, us, i, j, v, rfl, rfl, hx, q1.1, q1.2, by rw [ru.length]; exact ej, ev, vl.wr h q2 (moL_eq e) (ru.eraseIdx j) rv q⟩
    · exact q.elim
  · exact q.elim
section
variable {X : Cx} {E : WX} {a b c : Expr} {Wa Wb Wc : DE} {pos : Pos} {e : Expr} {es : List Expr} {Ws : DA}
/-- o[i] = e -/
def dSetIx (e o i : DE) : DS := fun N Ψ ρ m => e ρ m (fun v m1 => o ρ m1 (fun x m2 => i ρ m2 (fun j m3 => match x, j with
  | .hnd k, .int j => match moL m3.M[k]? with
    | some xs => ∃ n, ixN xs.length j = some n ∧ N.nx ρ ⟨m3.M.set k (.lst (xs.set n v)), m3.s⟩
    | none => False
  | _, _ => False) (Ψ ρ)) (Ψ ρ)) (Ψ ρ)
theorem js_setIx {o i : Expr} {Wo Wi : DE} {p1 : Pos} (he : JE X E a Wa) (ho : JE X E o Wo) (hi : JE X E i Wi) (h0 : PG X (.Subscript o i p1) (gSub (lift X.K E Wo) (lift X.K E Wi) rSetL))
    (hs : swapsWithSole [.Subscript o i p1] a pos.line X.env = pure false := by rfl) (hw : swappedStores [.Subscript o i p1] a X.env = pure none := by rfl) (h1 : (assignEach [.Subscript o i p1] X.env).map (·.2) = [assign (.Subscript o i p1) X.env] := by rfl) :
    JS X E (.Assign [.Subscript o i p1] a pos) (dSetIx Wa Wo Wi) := PS.imp (ps_asg he h0 hs hw h1) fun D σ H ⟨w, ρ, m, Ψ, N, a, n, h⟩ => by
  refine ⟨w, ρ, m, Ψ ρ, _, a.at, fun d m1 w1 H1 v l1 h1 r1 q1 => ?_, h⟩
  have a1 := a.to l1 h1
  refine ⟨w1, ρ, m1, Ψ ρ, _, a1.at, fun x m2 w2 H2 u l2 h2 r2 q2 => ?_, q1⟩
  refine ⟨w2, ρ, m2, Ψ ρ, _, (a1.to l2 h2).at, fun j m3 w3 H3 y l3 h3 r3 q3 => ?_, q2⟩
  split at q3
  · split at q3
    · rename_i k j _ xs e
      obtain ⟨nn, en, q⟩ := q3
      obtain ⟨b, rfl, q2⟩ := Rep.mono l3 _ _ r2
      cases (show y = V.int j from r3)
      obtain ⟨us, hx, ru⟩ := h3.obj k b _ q2 (moL_eq e)
      refine ⟨b, us, j, nn, rfl, rfl, hx, by rw [ru.length]; exact en, ?_⟩
      have l13 := l1.trans (l2.trans l3)
      exact n.nx ρ _ w3 _ σ l13 (h3.wr (o' := .lst (xs.set nn d)) q2 (moL_eq e) (fun z => by cases z) ⟨_, upd_same, ru.set nn (Rep.mono (l2.trans l3) _ _ r1)⟩) (a.s.mono l13) q
    · exact q3.elim
  · exact q3.elim
end

/-! ### a def by its body -/
theorem slots_start {K : PySem.W.Frag} {w : Wd} {ds : List D} {vs : List V} {N : List Str} (r : RepAll K w ds vs) : Slots K w (L2.start N vs) (ds.map some ++ List.replicate (N.length - ds.length) none) := by
  unfold L2.start
  refine ⟨by simp [r.length], fun i d e => ?_⟩
  have hi : i < ds.length := by
    rcases Nat.lt_or_ge i ds.length with h | h
    · exact h
    · rw [List.getElem?_append_right (by simpa using h), List.getElem?_replicate] at e
      split at e <;> cases e
  rw [List.getElem?_append_left (by simpa using hi), List.getElem?_map] at e
  cases q : ds[i]? with
  | none => rw [q] at e; cases e
  | some d' =>
    rw [q] at e; cases e
    obtain ⟨v, ev, rv⟩ := r.get q
    refine ⟨v, ?_, rv⟩
    rw [List.getElem?_append_left (by simpa [r.length] using hi), List.getElem?_map, ev]; rfl
section
variable {P : Program} {w : World} {K : PySem.W.Frag} {mg : Str → Option Value} {base : Heap}
abbrev wishE (E : XK) : WX := fun cls d _ H => E cls d H
theorem takesD {N : List Str} {qual : Str} {st : Stmt} {f : Addr} {cdv : Value} {A : Around} {outer : List PySem.Env} {s : Shared} {H : Hp} {E : XK} : Takes (cxOf (L2.CX P w) P w K mg base N qual (defScope st) f cdv A outer s H E) (wishE E) := takes_of rfl rfl rfl rfl
theorem passD {N : List Str} {qual : Str} {st : Stmt} {f : Addr} {cdv : Value} {A : Around} {outer : List PySem.Env} {s : Shared} {H : Hp} {E : XK} :
    PassesOwn (model (cxOf (L2.CX P w) P w K mg base N qual (defScope st) f cdv A outer s H E).prog (cxOf (L2.CX P w) P w K mg base N qual (defScope st) f cdv A outer s H E).w) (cxOf (L2.CX P w) P w K mg base N qual (defScope st) f cdv A outer s H E).A
      (cxOf (L2.CX P w) P w K mg base N qual (defScope st) f cdv A outer s H E).env (cxOf (L2.CX P w) P w K mg base N qual (defScope st) f cdv A outer s H E).xe := passes_of rfl
theorem okD {x qual : Str} {st : Stmt} {f : Addr} {fd : FuncData} {N ps : List Str} {k : Nat} {C : DC} {W : DS} (F : Fun K x qual st f fd) (S : FnScope N ps (defScope st))
    (hb : ∀ (cdv : Value) (A : Around) (outer : List PySem.Env) (s : Shared) (H : Hp) (E : XK), Room k (A.deeper (envOfC qual (defScope st) s.heap.objs.size f cdv)) → JSs (cxOf (L2.CX P w) P w K mg base N qual (defScope st) f cdv A outer s H E) (wishE E) (defBody st) W)
    (hC : ∀ ds m Φ Ψ, ds.length = ps.length → C ds m Φ Ψ → W { nx := fun _ m' => Φ .non m', rt := Φ } (fun _ => Ψ) (ds.map some ++ List.replicate (N.length - ds.length) none) m) :
    FnOk P w K mg base (L2.CX P w) (k + 1) f fd ps (spOf K ps.length C) := by
  refine F.okX S (fun vs H Q E h => h.1) fun cdv A outer s H vs Q E hr h => ⟨_, hb cdv A outer s H E hr, ?_⟩
  obtain ⟨hl, w0, ds, m, Φ, Ψ, h0, r, vl, xl, c⟩ := h
  have hd : ds.length = ps.length := r.length.symm.trans hl
  refine ⟨w0, _, m, fun _ => Ψ, _, ⟨h0, slots_start r, fun ρ σ w1 l1 _ C fs m' w' H' d xs l a b c q => xl C fs m' w' H' d xs (l1.trans l) a b c q⟩, ?_, hC ds m Φ Ψ hd c⟩
  exact ⟨fun ρ m' w' H' σ l h' _ q => vl .non m' w' H' _ l h' rfl q, vl, fun _ _ _ _ _ _ _ _ q => q.elim, fun _ _ _ _ _ _ _ _ q => q.elim⟩
end
end Dl

namespace Dl
open PySem L2 PyProof.Rows

abbrev oSub : DO := oI0 fun i j => i - j
abbrev oMul : DO := oI MulC fun i j => i * j
abbrev oDiv : DO := oI DivC fun i j => i / j
abbrev oMod : DO := oI ModC fun i j => i % j
abbrev oLe : DO := oB0 fun i j => decide (i ≤ j)
abbrev oGt : DO := oB0 fun i j => decide (j < i)
theorem opl_sub {K : PySem.W.Frag} : OpL K (rI0 fun i j => .int (i - j)) oSub := opl_I0
theorem opl_mul {K : PySem.W.Frag} : OpL K (rI MulC fun i j => .int (i * j)) oMul := opl_I fun _ _ h => h
theorem opl_div {K : PySem.W.Frag} : OpL K (rI CDivW fun i j => .int (i / j)) oDiv := opl_I fun _ _ h => divC_ok h
theorem opl_mod {K : PySem.W.Frag} : OpL K (rI (fun _ j => 0 < j) fun i j => .int (i % j)) oMod := opl_I fun _ _ h => h
theorem opl_le {K : PySem.W.Frag} : OpL K (rI0 fun i j => .bl (decide (i ≤ j))) oLe := opl_B0
theorem opl_gt {K : PySem.W.Frag} : OpL K (rI0 fun i j => .bl (decide (j < i))) oGt := opl_B0
def oShl : DO := oI CPow fun i j => i * 2 ^ j.toNat
def oNeg : DO1 := fun x m Φ => match x with
  | .int i => Φ (.int (-i)) m
  | _ => False
/-- every parameter is given -/
abbrev BA (fd : FuncData) (ps : List Str) : Prop := ∀ us : List Value, us.length = ps.length → bindArgs fd ⟨us, []⟩ = pure (ps.zip us)
/-- a def stands and keeps its worth -/
def Ok (P : Program) (w : World) (K : PySem.W.Frag) (mg : Str → Option Value) (base : Heap) (x : Str) (lv : Nat) (ps : List Str) (C : DC) : Prop :=
  ∃ f fd, mg x = some (.ref f) ∧ PySem.W.keepIn K (.ref f) = true ∧ BA fd ps ∧ FnOk P w K mg base (L2.CX P w) lv f fd ps (spOf K ps.length C)
/-- a def as the top has written it -/
def DefT (K : PySem.W.Frag) (mg : Str → Option Value) (x : Str) (st : Stmt) (ps : List Str) : Prop := ∃ f fd, Fun K x x st f fd ∧ mg x = some (.ref f) ∧ BA fd ps
theorem Ok.mono {P : Program} {w : World} {K : PySem.W.Frag} {mg : Str → Option Value} {base : Heap} {x : Str} {lv lv' : Nat} {ps : List Str} {C : DC} (h : Ok P w K mg base x lv ps C) (l : lv ≤ lv') : Ok P w K mg base x lv' ps C := by
  obtain ⟨f, fd, a, b, c, d⟩ := h
  exact ⟨f, fd, a, b, c, d.mono l⟩
/-- a weaker worth -/
theorem Ok.imp {P : Program} {w : World} {K : PySem.W.Frag} {mg : Str → Option Value} {base : Heap} {x : Str} {lv : Nat} {ps : List Str} {C C' : DC} (h : Ok P w K mg base x lv ps C) (i : ∀ ds m Φ Ψ, C' ds m Φ Ψ → C ds m Φ Ψ) : Ok P w K mg base x lv ps C' := by
  obtain ⟨f, fd, a, b, c, d⟩ := h
  exact ⟨f, fd, a, b, c, d.imp fun vs H Q E ⟨z, w, ds, m, Φ, Ψ, q1, q2, q3, q4, q5⟩ => ⟨z, w, ds, m, Φ, Ψ, q1, q2, q3, q4, i _ _ _ _ q5⟩⟩
section
variable {X : Cx} {E : WX} {pos p : Pos} {e : Expr} {es : List Expr} {Ws : DA} {x : Str} {k : Nat} {ps : List Str} {C : DC}
theorem je_callO (G : Ok X.prog X.w X.K X.mg X.base x k ps C) (tk : Takes X E) (hr : Room k X.A) (hg : Gl X x) (ha : JA X E (e :: es) Ws) (n : Nat) (hn : ps.length = n := by rfl) (hdb : (x == ("__debug__" : Str)) = false := by decide)
    (he : starEach (e :: es) X.env = (false, eval e X.env) :: starEach es X.env := by rfl) (hpl : (backTo pos (starEach es X.env)).any (·.1) = false := by rfl) : JE X E (.Call (.Name x p) (e :: es) [] pos) (dCall n C Ws) := by
  subst hn
  obtain ⟨f, fd, hm, kp, b, F⟩ := G
  exact je_call tk F hr hg hm kp (Binds.all b) ha hdb he hpl
end
/-- the law's own worth -/
def CLaw (C : List Int → MM → (D → MM → Prop) → Prop) : DC := fun ds m Φ _ => ∃ ns, ds = [.rol (ns.map D.int)] ∧ C ns m Φ
def ClawT : List Int → MM → (D → MM → Prop) → Prop := fun ns m Φ => ns.length ≤ 63 ∧ m = ⟨[], 0⟩ ∧ ∀ m', Φ (.bl true) m'
theorem repAll_ints {K : PySem.W.Frag} {w : Wd} : ∀ (ns : List Int), RepAll K w (ns.map D.int) (ns.map V.int)
  | [] => rfl
  | n :: ns => ⟨.int n, _, rfl, rfl, repAll_ints ns⟩
theorem law_sp {K : PySem.W.Frag} {H : Hp} {a : Addr} {ns : List Int} (hl : ns.length ≤ 63) (hS : SqL K H a (ns.map V.int)) : spOf K 1 (CLaw ClawT) [.ref a] H (fun v _ => v = .bl true) fun _ _ _ => False := by
  refine ⟨rfl, ⟨H, [], none⟩, [.rol (ns.map D.int)], ⟨[], 0⟩, fun d _ => d = .bl true, fun _ _ _ => False, ?_, ?_, ?_, ?_, ns, rfl, hl, rfl, fun _ => rfl⟩
  · exact ⟨fun _ _ h => h, rfl, List.nodup_nil, fun k a o e => by simp at e, fun k a o e => by simp at e, (fun _ S e => nomatch e), ⟨fun _ => rfl, fun e => nomatch e⟩⟩
  · exact ⟨_, [], rfl, ⟨a, _, rfl, hS, repAll_ints ns⟩, rfl⟩
  · intro d m' w' H' v l h r q
    subst q
    exact r
  · intro _ _ _ _ _ _ _ _ _ _ _ q
    exact q.elim
theorem cx_false {P : Program} {w : World} {H : Hp} {s : Shared} {e : Value} {s' : Shared} (h : L2.CX P w [] H s (fun _ _ _ => False) e s') : False := by
  obtain ⟨_, _, _, _, _, _, _, _, _, _, _, _, z⟩ := h
  exact z.elim

/-! ### reasoning -/
/-- over the items of a list of anything -/
theorem forW_map {α : Type} {inj : α → D} {g : DG} {body : DS} {N : DN} {Ψ : XS} (I : List α → Env → MM → Prop) (hs : ∀ d r (k : Env → MM → Prop), (∀ ρ m, I r ρ m → k ρ m) → ∀ ρ m, I (d :: r) ρ m → g (inj d) ρ m (fun ρ1 m1 => body { N with nx := k, ct := k, bk := N.nx } Ψ ρ1 m1))
    (hd : ∀ ρ m, I [] ρ m → N.nx ρ m) : ∀ (ds : List α) (ρ : Env) (m : MM), I ds ρ m → forW g body N Ψ (ds.map inj) ρ m
  | [], ρ, m, h => hd ρ m h
  | d :: r, ρ, m, h => hs d r _ (fun ρ m => forW_map I hs hd r ρ m) ρ m h
/-- over a range: I at the number of turns done -/
theorem forW_rng {lo : Int} {n : Nat} {g : DG} {body : DS} {N : DN} {Ψ : XS} (I : Nat → Env → MM → Prop) (hs : ∀ i (k : Env → MM → Prop), i < n → (∀ ρ m, I (i + 1) ρ m → k ρ m) → ∀ ρ m, I i ρ m → g (.int (lo + (i : Nat))) ρ m (fun ρ1 m1 => body { N with nx := k, ct := k, bk := N.nx } Ψ ρ1 m1))
    (hd : ∀ ρ m, I n ρ m → N.nx ρ m) {ρ : Env} {m : MM} (h : I 0 ρ m) : forW g body N Ψ (rngD lo n) ρ m := by
  have key : ∀ (k i : Nat), i + k = n → ∀ ρ m, I i ρ m → forW g body N Ψ ((List.range' i k).map fun (j : Nat) => D.int (lo + (j : Nat))) ρ m := by
    intro k
    induction k with
    | zero =>
      intro i e ρ m h
      have e : i = n := by omega
      subst e
      exact hd ρ m h
    | succ k ih =>
      intro i e ρ m h
      rw [List.range'_succ]
      exact hs i _ (by omega) (fun ρ m h => ih (i + 1) (by omega) ρ m h) ρ m h
  unfold rngD
  rw [List.range_eq_range']
  exact key n 0 (by omega) ρ m h
inductive All2 {α β : Type} (R : α → β → Prop) : List α → List β → Prop where
  | nil : All2 R [] []
  | cons {a b as bs} : R a b → All2 R as bs → All2 R (a :: as) (b :: bs)
theorem All2.length {α β : Type} {R : α → β → Prop} {as : List α} {bs : List β} (h : All2 R as bs) : as.length = bs.length := by
  induction h with
  | nil => rfl
  | cons _ _ ih => rw [List.length_cons, List.length_cons, ih]
/-- a comprehension whose items are some y with R x y -/
theorem lcW_any {α β : Type} {inj : α → D} {out : β → D} {g : DG} {te : DE} {ρ : Env} {Φ : D → MM → Prop} (R : α → β → Prop) (m : MM)
    (hg : ∀ x (m' : MM) (Θ : D → MM → Prop), m'.s = m.s → (∀ y, R x y → Θ (out y) m') → g (inj x) ρ m' (fun ρ1 m1 => m1 = m' ∧ te ρ1 m' Θ XF)) (hc : ∀ y, clD m.M.length (out y) = true) :
    ∀ (xs : List α) (acc : List D), acc.length + xs.length ≤ LIM → (∀ ys, All2 R xs ys → Φ (.lst (acc ++ ys.map out)) m) → lcW g dYes te ρ Φ (xs.map inj) acc m
  | [], acc, _, h => by
    have z := h [] .nil
    rw [List.map_nil, List.append_nil] at z
    exact z
  | x :: xs, acc, hl, h => by
    rw [List.length_cons] at hl
    have z := hg x (m.push (.lst acc)) (fun y m3 => m3 = m.push (.lst acc) ∧ acc.length < LIM ∧ clD m.M.length y = true ∧ lcW g dYes te ρ Φ (xs.map inj) (acc ++ [y]) m) rfl (fun y hy => ⟨rfl, by omega, hc y, lcW_any R m hg hc xs (acc ++ [out y]) (by rw [List.length_append, List.length_singleton]; omega) fun ys hys => by
      have q := h (y :: ys) (.cons hy hys)
      rw [List.map_cons] at q
      rw [List.append_assoc]
      exact q⟩)
    show g (inj x) ρ _ _
    have key : (fun (ρ1 : Env) (m1 : MM) => m1 = m.push (.lst acc) ∧ te ρ1 (m.push (.lst acc)) (fun y m3 => m3 = m.push (.lst acc) ∧ acc.length < LIM ∧ clD m.M.length y = true ∧ lcW g dYes te ρ Φ (xs.map inj) (acc ++ [y]) m) XF)
        = (fun ρ1 m1 => m1 = m.push (.lst acc) ∧ dYes ρ1 (m.push (.lst acc)) (fun b m2 => m2 = m.push (.lst acc) ∧ if b = true then te ρ1 (m.push (.lst acc)) (fun y m3 => m3 = m.push (.lst acc) ∧ acc.length < LIM ∧ clD m.M.length y = true ∧ lcW g dYes te ρ Φ (xs.map inj) (acc ++ [y]) m) XF
          else lcW g dYes te ρ Φ (xs.map inj) acc m) XF) := by
      funext ρ1 m1
      unfold dYes
      simp
    rw [key] at z
    exact z
theorem All2.fn {α β : Type} {f : α → β} : ∀ {as : List α} {bs : List β}, All2 (fun a b => b = f a) as bs → bs = as.map f
  | _, _, .nil => rfl
  | _, _, .cons e h => by rw [e, h.fn]; rfl
/-- a comprehension of a function's values -/
theorem lcW_fn {α β : Type} {inj : α → D} {out : β → D} {g : DG} {te : DE} {ρ : Env} {Φ : D → MM → Prop} (f : α → β) (m : MM) (xs : List α)
    (hg : ∀ x ∈ xs, ∀ (m' : MM) (Θ : D → MM → Prop), Θ (out (f x)) m' → g (inj x) ρ m' (fun ρ1 m1 => m1 = m' ∧ te ρ1 m' Θ XF)) (hc : ∀ y, clD m.M.length (out y) = true) (hl : xs.length ≤ LIM) (h : Φ (.lst ((xs.map f).map out)) m) :
    lcW g dYes te ρ Φ (xs.map inj) [] m := by
  have key : ∀ (ys : List α), (∀ x ∈ ys, x ∈ xs) → ∀ (acc : List D), acc.length + ys.length ≤ LIM → Φ (.lst (acc ++ (ys.map f).map out)) m → lcW g dYes te ρ Φ (ys.map inj) acc m := by
    intro ys
    induction ys with
    | nil => intro _ acc _ h; rw [List.map_nil, List.map_nil, List.append_nil] at h; exact h
    | cons x ys ih =>
      intro hx acc hl h
      rw [List.length_cons] at hl
      have z := hg x (hx x List.mem_cons_self) (m.push (.lst acc)) (fun y m3 => m3 = m.push (.lst acc) ∧ acc.length < LIM ∧ clD m.M.length y = true ∧ lcW g dYes te ρ Φ (ys.map inj) (acc ++ [y]) m) ⟨rfl, by omega, hc _, ih (fun y hy => hx y (List.mem_cons_of_mem _ hy)) (acc ++ [out (f x)]) (by rw [List.length_append, List.length_singleton]; omega) (by
        rw [List.map_cons, List.map_cons] at h
        rw [List.append_assoc]
        exact h)⟩
      have key : (fun (ρ1 : Env) (m1 : MM) => m1 = m.push (.lst acc) ∧ te ρ1 (m.push (.lst acc)) (fun y m3 => m3 = m.push (.lst acc) ∧ acc.length < LIM ∧ clD m.M.length y = true ∧ lcW g dYes te ρ Φ (ys.map inj) (acc ++ [y]) m) XF)
          = (fun ρ1 m1 => m1 = m.push (.lst acc) ∧ dYes ρ1 (m.push (.lst acc)) (fun b m2 => m2 = m.push (.lst acc) ∧ if b = true then te ρ1 (m.push (.lst acc)) (fun y m3 => m3 = m.push (.lst acc) ∧ acc.length < LIM ∧ clD m.M.length y = true ∧ lcW g dYes te ρ Φ (ys.map inj) (acc ++ [y]) m) XF
            else lcW g dYes te ρ Φ (ys.map inj) acc m) XF) := by
        funext ρ1 m1
        unfold dYes
        simp
      rw [key] at z
      exact z
  exact key xs (fun x h => h) [] (by rw [List.length_nil]; omega) (by rw [List.nil_append]; exact h)
theorem rngD0 {n : Nat} : rngD 0 n = (List.range n).map fun i : Nat => D.int (i : Nat) := by
  unfold rngD
  simp only [Int.zero_add]
theorem clAll_ints {n : Nat} : ∀ (xs : List Int), clAll n (xs.map D.int) = true
  | [] => rfl
  | x :: xs => by
    show (true && clAll n (xs.map D.int)) = true
    rw [clAll_ints xs]; rfl
theorem bt_len : bootBuiltins "len" = some (.builtin "len") := by decide +kernel
theorem bt_abs : bootBuiltins "abs" = some (.builtin "abs") := by decide +kernel
theorem bt_max : bootBuiltins "max" = some (.builtin "max") := by decide +kernel
theorem bt_min : bootBuiltins "min" = some (.builtin "min") := by decide +kernel
theorem bt_sorted : bootBuiltins "sorted" = some (.builtin "sorted") := by decide +kernel
theorem bt_int : bootBuiltins "int" = some (.type "int") := by decide +kernel
theorem bt_list : bootBuiltins "list" = some (.type "list") := by decide +kernel
end Dl

namespace Dl
open PySem L2 PyProof.Rows

/-! ### further walks -/
section
variable {X : Cx} {E : WX} {a b c : Expr} {Ws : DA} {pos p tpos : Pos} {elts : List Expr} {kk : Nat}
def enumD : Nat → List D → List D
  | _, [] => []
  | i, d :: ds => .tup [.int (i : Nat), d] :: enumD (i + 1) ds
def diEnumerate (r : DA) : DI := fun ρ m Φ Ψ => r ρ m (fun ds m1 => match ds with
  | [d] => match asF d with
    | some xs => Φ (enumD 0 xs) m1
    | none => False
  | _ => False) Ψ
def zipD : List D → List D → List D
  | x :: xs, y :: ys => .tup [x, y] :: zipD xs ys
  | _, _ => []
def diZip (r : DA) : DI := fun ρ m Φ Ψ => r ρ m (fun ds m1 => match ds with
  | [d, e] => match asF d, asF e with
    | some xs, some ys => Φ (zipD xs ys) m1
    | _, _ => False
  | _ => False) Ψ
def diReversed (r : DA) : DI := fun ρ m Φ Ψ => r ρ m (fun ds m1 => match ds with
  | [d] => match asF d with
    | some xs => Φ xs.reverse m1
    | none => False
  | _ => False) Ψ
end

/-! ### a comprehension whose list changes later -/
def lcWM (g : DG) (tt : DT) (te : DE) (ρ : Env) (Φ : D → MM → Prop) : List D → List D → MM → Prop
  | [], acc, m => Φ (.hnd m.M.length) (m.push (.lst acc))
  | d :: ds, acc, m => g d ρ (m.push (.lst acc)) fun ρ1 m1 => m1 = m.push (.lst acc) ∧ tt ρ1 (m.push (.lst acc)) (fun b m2 => m2 = m.push (.lst acc) ∧ if b = true then
      te ρ1 (m.push (.lst acc)) (fun y m3 => m3 = m.push (.lst acc) ∧ acc.length < LIM ∧ lcWM g tt te ρ Φ ds (acc ++ [y]) m) XF
    else lcWM g tt te ρ Φ ds acc m) XF
def dLcM (it : DI) (g : DG) (tt : DT) (te : DE) (vs : List Nat) : DE := fun ρ m Φ Ψ => it ρ m (fun ds m1 => lcWM g tt te (wipeD ρ vs) Φ ds [] m1) Ψ
theorem lcM_ok {K : PySem.W.Frag} {E : WX} {wi : DI} {g : DG} {tt : DT} {te : DE} {vs : List Nat} {σ : L2.St} {H : Hp} {Q : VK} (h : lift K E (dLcM wi g tt te vs) σ H Q) : tLc (liftI K E wi) (liftG K vs g) (liftT K EF tt) (lift K EF te) vs σ H Q := by
  obtain ⟨w, ρ, m, Ψ, Φ, a, vl, h⟩ := h
  refine ⟨w, ρ, m, Ψ, _, a, fun ds m1 w1 H1 J l1 h1 wk q1 => ?_, h⟩
  intro D hD
  refine ⟨fun i k H => k = ds.length - i ∧ i ≤ ds.length ∧ ∃ w' acc, w1.le w' ∧ HRep K w' (m1.push (.lst acc)) H ∧ w'.th[m1.M.length]? = some D ∧ lcWM g tt te (wipeD ρ vs) Φ (ds.drop i) acc m1, ⟨ds.length, by omega, Nat.zero_le _, w1.add D, [], Wd.le_add, h1.add hD ⟨[], upd_same, rfl⟩, ?_, q1⟩, ?_⟩
  · show (w1.th ++ [D])[m1.M.length]? = some D
    rw [← h1.len, List.getElem?_append_right (Nat.le_refl _)]; simp
  rintro i k H2 ⟨rfl, hi, w2, acc, l2, h2, hD2, q2⟩
  by_cases hlt : i < ds.length
  · have ed : ds[i]? = some ds[i] := List.getElem?_eq_getElem hlt
    have dr : ds.drop i = ds[i] :: ds.drop (i + 1) := List.drop_eq_getElem_cons hlt
    rw [dr] at q2
    refine .inr ⟨wk.go w2 _ H2 i _ l2 h2 ed, fun H' => ∃ w' acc, w1.le w' ∧ HRep K w' (m1.push (.lst acc)) H' ∧ w'.th[m1.M.length]? = some D ∧ lcWM g tt te (wipeD ρ vs) Φ (ds.drop (i + 1)) acc m1, fun H' z => ⟨ds.length - (i + 1), by omega, rfl, hlt, z⟩, fun x H3 y => ?_⟩
    obtain ⟨w3, l3, h3, r3⟩ := wk.yld w2 _ H2 i _ x H3 l2 h2 ed y
    have s3 : Slots K w3 (L2.wipe σ vs) (wipeD ρ vs) := ((a.s.mono l1).mono (l2.trans l3)).wipes vs
    refine ⟨w3, wipeD ρ vs, _, ds[i], _, h3, s3, r3, fun ρ' m' w' H' σ' l h' s' e q => ⟨e.trans wipe_wipe, ?_⟩, q2⟩
    obtain ⟨rfl, q⟩ := q
    refine ⟨w', ρ', _, XF, _, ⟨h', s', xlift_F⟩, fun b m4 w4 H4 l4 h4 q4 => ?_, q⟩
    obtain ⟨rfl, q4⟩ := q4
    have l24 : w2.le w4 := l3.trans (l.trans l4)
    cases b with
    | true =>
      rw [if_pos rfl] at q4
      show (if true = true then _ else _)
      rw [if_pos rfl]
      refine ⟨w4, ρ', _, XF, _, ⟨h4, s'.mono l4, xlift_F⟩, fun y m5 w5 H5 v l5 h5 r5 q5 => ?_, q4⟩
      obtain ⟨rfl, hz, q5⟩ := q5
      have hD5 : w5.th[m1.M.length]? = some D := l5.th _ _ (l24.th _ _ hD2)
      have hM : (m1.push (.lst acc)).M[m1.M.length]? = some (.lst acc) := by
        show (m1.M ++ [MO.lst acc])[m1.M.length]? = _
        rw [List.getElem?_append_right (Nat.le_refl _)]; simp
      obtain ⟨xs, hx, r⟩ := h5.obj _ D _ hD5 hM
      refine ⟨xs, hx, lim_lt (by rw [r.length]; exact hz), w5, acc ++ [y], l2.trans (l24.trans l5), ?_, hD5, q5⟩
      have z := h5.wr (ho := .lst (xs ++ [v])) (o' := .lst (acc ++ [y])) hD5 hM (fun z => by cases z) ⟨_, upd_same, r.append ⟨v, [], rfl, r5, rfl⟩⟩
      have e : (m1.push (.lst acc)).M.set m1.M.length (.lst (acc ++ [y])) = (m1.push (.lst (acc ++ [y]))).M := by
        show (m1.M ++ [MO.lst acc]).set m1.M.length (.lst (acc ++ [y])) = m1.M ++ [MO.lst (acc ++ [y])]
        rw [List.set_append_right _ _ (Nat.le_refl _)]; simp
      rw [e] at z
      exact z
    | false =>
      rw [if_neg Bool.false_ne_true] at q4
      show (if false = true then _ else _)
      rw [if_neg Bool.false_ne_true]
      exact ⟨w4, acc, l2.trans l24, h4, l24.th _ _ hD2, q4⟩
  · have e : i = ds.length := by omega
    subst e
    rw [List.drop_length] at q2
    exact .inl ⟨wk.stop w2 _ H2 l2 h2, vl (.hnd m1.M.length) _ w2 H2 _ (l1.trans l2) h2 ⟨D, rfl, hD2⟩ q2⟩
section
variable {X : Cx} {E : WX}
theorem je_lcM {elt tg iter : Expr} {ifs : List Expr} {scope : Scope} {own : List (Str × Nat)} {pos : Pos} {wi : DI} {g : DG} {tt : DT} {te : DE} (hc : X.calm = true) (hN : X.N.Nodup) (hi : JI X E tg iter wi) (ok : BlkOk X.N X.env.scope scope own)
    (hg : ∀ (s : Shared) (H : Hp) (C : Addr) (cl : List (Str × Addr)) (fp : List Addr), PG (X.blk s H scope (compEnvC scope cl C X.env) fp) tg (liftG X.K (own.map (·.2)) g))
    (ht : ∀ (s : Shared) (H : Hp) (C : Addr) (cl : List (Str × Addr)) (fp : List Addr), PTs (X.blk s H scope (compEnvC scope cl C X.env) fp) ifs (liftT X.K EF tt))
    (he : ∀ (s : Shared) (H : Hp) (C : Addr) (cl : List (Str × Addr)) (fp : List Addr), JE (X.blk s H scope (compEnvC scope cl C X.env) fp) EF elt te) (hs : ∀ x, foldedSetIterable iter X.env x = pure x := by intro _; rfl) :
    JE X E (.ListComp elt [⟨tg, iter, ifs, 0⟩] scope pos) (dLcM wi g tt te (own.map (·.2))) := PE.imp (pe_lc hc hN hi ok hg ht he hs) fun _ _ _ h => lcM_ok h
end

/-! ### the drawing state, opened and closed -/
section
variable {K : PySem.W.Frag} {w : Wd} {m : MM} {H : Hp} {p A c : Addr}
theorem HRep.adopt {o : MO} (h : HRep K w m H) (h0 : m.s ≠ 1) (hp : p ∉ w.th) (hF : w.F p = none) (ob : ORep K (w.add p) H p o) : HRep K (w.add p) (m.push o) H where
  ext := h.ext
  len := by show (w.th ++ [p]).length = (m.M ++ [o]).length; rw [List.length_append, List.length_append, h.len]; rfl
  nd := by
    show (w.th ++ [p]).Nodup
    rw [List.nodup_append]
    refine ⟨h.nd, by simp, fun a ha b hb e => ?_⟩
    have e2 : b = p := by simpa using hb
    subst e2; subst e
    exact hp ha
  obj := fun k a o' q1 q2 => by
    have q1 : (w.th ++ [p])[k]? = some a := q1
    have q2 : (m.M ++ [o])[k]? = some o' := q2
    rcases Nat.lt_or_ge k w.th.length with hk | hk
    · rw [List.getElem?_append_left hk] at q1
      rw [List.getElem?_append_left (by rw [← h.len]; exact hk)] at q2
      exact (h.obj k a o' q1 q2).mono Wd.le_add rfl
    · rw [List.getElem?_append_right hk] at q1
      rw [List.getElem?_append_right (by rw [← h.len]; exact hk)] at q2
      have hk2 : k = w.th.length := by
        have z := (List.getElem?_eq_some_iff.mp q1).1
        simp at z; omega
      subst hk2
      rw [Nat.sub_self] at q1
      rw [h.len, Nat.sub_self] at q2
      simp at q1 q2
      subst q1; subst q2
      exact ob
  thF := fun k a o' q1 q2 q3 => by
    have q1 : (w.th ++ [p])[k]? = some a := q1
    have q2 : (m.M ++ [o])[k]? = some o' := q2
    show w.F a = none
    rcases Nat.lt_or_ge k w.th.length with hk | hk
    · rw [List.getElem?_append_left hk] at q1
      rw [List.getElem?_append_left (by rw [← h.len]; exact hk)] at q2
      exact h.thF k a o' q1 q2 q3
    · rw [List.getElem?_append_right hk] at q1
      have z : a ∈ [p] := List.mem_of_getElem? q1
      have e : a = p := by simpa using z
      rw [e]; exact hF
  ls := fun q => absurd q h0
  flag := h.flag
theorem HRep.turn {s : Nat} (h : HRep K w m H) (h1 : s ≠ 1) (h0 : s ≠ 0) : HRep K w ⟨m.M, s⟩ H := ⟨h.ext, h.len, h.nd, h.obj, h.thF, fun q => absurd q h1, ⟨fun q => absurd q h0, fun q => absurd q h1⟩⟩
theorem repAll_intsD {K : PySem.W.Frag} {w : Wd} : ∀ (ns : List Int), RepAll K w (ns.map D.int) (ns.map V.int)
  | [] => rfl
  | n :: ns => ⟨.int n, _, rfl, rfl, repAll_intsD ns⟩
/-- the lists of the drawing state become our own -/
theorem HRep.opened (h : HRep K w m H) (h1 : m.s = 1) (hS : w.S = some ⟨A, c, 0⟩) : ∃ (cells : List Int) (seed : Int),
    HRep K ((w.add c).add A) ⟨m.M ++ [.lst (cells.map D.int)] ++ [.lst [.hnd m.M.length, .int seed]], 2⟩ H ∧ w.le ((w.add c).add A) := by
  obtain ⟨hok, h2⟩ := h.ls h1 _ hS
  obtain ⟨cells, seed, hA, hc⟩ : ∃ (cells : List Int) (seed : Int), H A = some (.lst [.ref c, .int seed]) ∧ H c = some (.lst (cells.map V.int)) := hok
  have fA := h2 A (by show A ∈ [A, c]; simp)
  have fc := h2 c (by show c ∈ [A, c]; simp)
  have ne : A ≠ c := fun z => by
    rw [← z, hA] at hc
    cases cells with
    | nil => cases hc
    | cons x xs => cases hc
  have g1 := (h.turn (s := 2) (by decide) (by decide)).adopt (o := .lst (cells.map D.int)) (by show (2 : Nat) ≠ 1; decide) fc.2.1 fc.1 ⟨_, hc, repAll_intsD cells⟩
  have g2 := g1.adopt (p := A) (o := .lst [.hnd m.M.length, .int seed]) (by show (2 : Nat) ≠ 1; decide) (by show A ∉ w.th ++ [c]; simp only [List.mem_append, List.mem_singleton, not_or]; exact ⟨fA.2.1, ne⟩) fA.1
    ⟨_, hA, .ref c, _, rfl, ⟨c, rfl, Wd.le_add.th _ _ (by show (w.th ++ [c])[m.M.length]? = some c; rw [← h.len, List.getElem?_append_right (Nat.le_refl _)]; simp)⟩, .int seed, [], rfl, rfl, rfl⟩
  exact ⟨cells, seed, g2, Wd.le_add.trans Wd.le_add⟩
/-- .. and are given back -/
theorem HRep.closed {M0 : List MO} {S : LS} (h : HRep K w m H) (hM : m.M.take M0.length = M0) (hS : w.S = some S) (hc : ∀ o ∈ M0, clO M0.length o = true) (hA : ∀ a ∈ S.fp, ∃ j, M0.length ≤ j ∧ w.th[j]? = some a ∧ ∃ o, m.M[j]? = some o ∧ o ≠ .dead) (ok : S.ok H) :
    HRep K (w.cut M0.length) ⟨M0, 1⟩ H := by
  have z := h.cut (n := M0.length) (by rw [hM]; exact hc)
  have e : (m.cut M0.length).M = M0 := hM
  exact {
    ext := z.ext
    len := by have q := z.len; rw [e] at q; exact q
    nd := z.nd
    obj := fun k a o q1 q2 => z.obj k a o q1 (by rw [e]; exact q2)
    thF := fun k a o q1 q2 q3 => z.thF k a o q1 (by rw [e]; exact q2) q3
    ls := fun _ S' q => by
      have q : w.S = some S' := q
      rw [hS] at q; cases q
      refine ⟨ok, fun a ha => ?_⟩
      obtain ⟨j, hj, e1, o, e2, e3⟩ := hA a ha
      refine ⟨h.thF j a o e1 e2 e3, fun hm => ?_, h.thH (List.mem_of_getElem? e1)⟩
      have hm : a ∈ w.th.take M0.length := hm
      obtain ⟨i, hi, ei⟩ := List.mem_iff_getElem.mp hm
      have hi2 := hi
      rw [List.length_take] at hi2
      have e4 : w.th[i]? = some a := by
        have q : (w.th.take M0.length)[i]? = some a := by rw [List.getElem?_eq_getElem hi, ei]
        rw [List.getElem?_take_of_lt (by omega)] at q
        exact q
      obtain ⟨k1, k2⟩ := List.getElem?_eq_some_iff.mp e1
      obtain ⟨j1, j2⟩ := List.getElem?_eq_some_iff.mp e4
      have ij : j = i := (List.getElem_inj h.nd).mp (k2.trans j2.symm)
      omega
    flag := ⟨fun q => (by cases q), fun _ => by show w.S.isSome = true; rw [hS]; rfl⟩ }
end
/-! the two defs of most laws: the state is made; a number is drawn -/
def C_stateO : DC := fun ds m Φ _ => (∃ ns : List Int, ds = [.rol (ns.map D.int)] ∧ ns.length ≤ 1000) ∧ ∀ (cells : List Int) (seed : Int), Φ (.hnd (m.M.length + 1)) ⟨m.M ++ [.lst (cells.map D.int)] ++ [.lst [.hnd m.M.length, .int seed]], m.s⟩
def C_state : DC := fun ds m Φ _ => (∃ ns : List Int, ds = [.rol (ns.map D.int)] ∧ ns.length ≤ 1000) ∧ m.s = 0 ∧ Φ (.st 0) ⟨m.M, 1⟩
def C_drawO : DC := fun ds m Φ _ => ∃ (k j : Nat) (cells : List Int) (seed n : Int), ds = [.hnd k, .int n] ∧ 0 < n ∧ n < 2 ^ 64 ∧ m.M[k]? = some (.lst [.hnd j, .int seed]) ∧ m.M[j]? = some (.lst (cells.map D.int)) ∧ j ≠ k ∧
  ∀ (r : Int) (cells' : List Int) (seed' : Int), 0 ≤ r → r < n → Φ (.int r) ⟨(m.M.set j (.lst (cells'.map D.int))).set k (.lst [.hnd j, .int seed']), m.s⟩
def C_draw : DC := fun ds m Φ _ => ∃ n : Int, ds = [.st 0, .int n] ∧ m.s = 1 ∧ 0 < n ∧ n < 2 ^ 64 ∧ ∀ r : Int, 0 ≤ r → r < n → Φ (.int r) m
section
variable {P : Program} {w : World} {K : PySem.W.Frag} {mg : Str → Option Value} {base : Heap} {x : Str} {lv : Nat} {ps : List Str}
theorem Ok.impV {C C' : DC} (h : Ok P w K mg base x lv ps C) (i : ∀ vs H Q E, spOf K ps.length C' vs H Q E → spOf K ps.length C vs H Q E) : Ok P w K mg base x lv ps C' := by
  obtain ⟨f, fd, a, b, c, d⟩ := h
  exact ⟨f, fd, a, b, c, d.imp i⟩
theorem state_close (h : Ok P w K mg base x lv ps C_stateO) : Ok P w K mg base x lv ps C_state := h.impV fun vs H Q E ⟨z, w0, ds, m, Φ, Ψ, h0, r, vl, xl, hds, hs, q⟩ => by
  refine ⟨z, w0, ds, m, fun d m' => ∃ (cells : List Int) (seed : Int), d = .hnd (m.M.length + 1) ∧ m' = ⟨m.M ++ [.lst (cells.map D.int)] ++ [.lst [.hnd m.M.length, .int seed]], m.s⟩, Ψ, h0, r, ?_, xl, hds, fun cells seed => ⟨cells, seed, rfl, rfl⟩⟩
  rintro d m' w' H' v l h' rd ⟨cells, seed, rfl, rfl⟩
  obtain ⟨A, rfl, eA⟩ := rd
  have hS : w'.S = none := h'.flag.1 hs
  have gA : (m.M ++ [MO.lst (cells.map D.int)] ++ [MO.lst [.hnd m.M.length, .int seed]])[m.M.length + 1]? = some (.lst [.hnd m.M.length, .int seed]) := by
    rw [List.append_assoc, List.getElem?_append_right (by omega)]; simp
  have gc : (m.M ++ [MO.lst (cells.map D.int)] ++ [MO.lst [.hnd m.M.length, .int seed]])[m.M.length]? = some (.lst (cells.map D.int)) := by
    rw [List.append_assoc, List.getElem?_append_right (Nat.le_refl _)]; simp
  obtain ⟨xs, hA, v1, r1, rfl, ⟨c, rfl, ec⟩, v2, r2, rfl, e2, e3⟩ := h'.obj _ A _ eA gA
  have e2 : v2 = .int seed := e2
  have e3 : r2 = [] := e3
  subst e2; subst e3
  obtain ⟨ys, hc, ry⟩ := h'.obj _ c _ ec gc
  have ey := ints_ok (ints_map cells) ry
  subst ey
  -- the world with the state
  have lS : w'.le ⟨w'.F, w'.th, some ⟨A, c, 0⟩⟩ := ⟨fun _ _ h => h, fun _ _ h => h, fun S e => by rw [hS] at e; cases e⟩
  have h2 : HRep K ⟨w'.F, w'.th, some ⟨A, c, 0⟩⟩ ⟨m.M ++ [.lst (cells.map D.int)] ++ [.lst [.hnd m.M.length, .int seed]], 2⟩ H' :=
    ⟨h'.ext, h'.len, h'.nd, fun k a o q1 q2 => (h'.obj k a o q1 q2).mono lS rfl, h'.thF, fun q => (by cases q), ⟨fun q => (by cases q), fun q => (by cases q)⟩⟩
  have h3 := h2.closed (M0 := m.M) (S := ⟨A, c, 0⟩) (by show (m.M ++ _ ++ _).take _ = _; rw [List.append_assoc, List.take_left' rfl]) rfl h0.cls (fun a ha => by
    have ha : a ∈ [A, c] := ha
    simp only [List.mem_cons, List.not_mem_nil, or_false] at ha
    rcases ha with rfl | rfl
    · exact ⟨_, by omega, eA, _, gA, fun z => by cases z⟩
    · exact ⟨_, Nat.le_refl _, ec, _, gc, fun z => by cases z⟩) ⟨cells, seed, hA, hc⟩
  exact vl (.st 0) ⟨m.M, 1⟩ _ H' _ (Wd.le_cut (l.trans lS) (Nat.le_of_eq h0.len)) h3 ⟨⟨A, c, 0⟩, rfl, rfl, rfl⟩ q
theorem draw_close (h : Ok P w K mg base x lv ps C_drawO) : Ok P w K mg base x lv ps C_draw := h.impV fun vs H Q E ⟨z, w0, ds, m, Φ, Ψ, h0, r, vl, xl, n, hds, hs, hn, hn2, q⟩ => by
  subst hds
  obtain ⟨v1, v2, rfl, ⟨⟨A, c, k⟩, hS, hk, rfl⟩, rfl⟩ := rep2 r
  have hk : k = 0 := hk
  subst hk
  obtain ⟨cells, seed, h1, l1⟩ := h0.opened hs hS
  have e1 : ((w0.add c).add A).th[m.M.length + 1]? = some A := by
    show (w0.th ++ [c] ++ [A])[m.M.length + 1]? = some A
    rw [← h0.len, List.append_assoc, List.getElem?_append_right (by omega)]; simp
  have e2 : ((w0.add c).add A).th[m.M.length]? = some c := by
    show (w0.th ++ [c] ++ [A])[m.M.length]? = some c
    rw [← h0.len, List.append_assoc, List.getElem?_append_right (Nat.le_refl _)]; simp
  have gA : (m.M ++ [MO.lst (cells.map D.int)] ++ [MO.lst [.hnd m.M.length, .int seed]])[m.M.length + 1]? = some (.lst [.hnd m.M.length, .int seed]) := by
    rw [List.append_assoc, List.getElem?_append_right (by omega)]; simp
  have gc : (m.M ++ [MO.lst (cells.map D.int)] ++ [MO.lst [.hnd m.M.length, .int seed]])[m.M.length]? = some (.lst (cells.map D.int)) := by
    rw [List.append_assoc, List.getElem?_append_right (Nat.le_refl _)]; simp
  refine ⟨z, (w0.add c).add A, [.hnd (m.M.length + 1), .int n], ⟨m.M ++ [.lst (cells.map D.int)] ++ [.lst [.hnd m.M.length, .int seed]], 2⟩, fun d m' => ∃ (r : Int) (cells' : List Int) (seed' : Int), d = .int r ∧ 0 ≤ r ∧ r < n ∧
    m' = ⟨m.M ++ [.lst (cells'.map D.int)] ++ [.lst [.hnd m.M.length, .int seed']], 2⟩, XF, h1, ⟨.ref A, _, rfl, ⟨A, rfl, e1⟩, .int n, [], rfl, rfl, rfl⟩, ?_, fun _ _ _ _ _ _ _ _ _ _ _ q => q.elim, m.M.length + 1, m.M.length, cells, seed, n, rfl, hn, hn2, gA, gc, by omega, fun r cells' seed' hr0 hr1 => ⟨r, cells', seed', rfl, hr0, hr1, ?_⟩⟩
  · rintro d m' w' H' v l h' rd ⟨r, cells', seed', rfl, hr0, hr1, rfl⟩
    have rd : v = .int r := rd
    subst rd
    have gA' : (m.M ++ [MO.lst (cells'.map D.int)] ++ [MO.lst [.hnd m.M.length, .int seed']])[m.M.length + 1]? = some (.lst [.hnd m.M.length, .int seed']) := by
      rw [List.append_assoc, List.getElem?_append_right (by omega)]; simp
    have gc' : (m.M ++ [MO.lst (cells'.map D.int)] ++ [MO.lst [.hnd m.M.length, .int seed']])[m.M.length]? = some (.lst (cells'.map D.int)) := by
      rw [List.append_assoc, List.getElem?_append_right (Nat.le_refl _)]; simp
    have f1 := l.th _ _ e1
    have f2 := l.th _ _ e2
    obtain ⟨xs, hA, v1, r1, rfl, ⟨c', rfl, ec⟩, v2, r2, rfl, e4, e3⟩ := h'.obj _ A _ f1 gA'
    have e4 : v2 = .int seed' := e4
    have e3 : r2 = [] := e3
    subst e4; subst e3
    rw [f2] at ec
    cases ec
    obtain ⟨ys, hc, ry⟩ := h'.obj _ c _ f2 gc'
    have ey := ints_ok (ints_map cells') ry
    subst ey
    have lall := l1.trans l
    have hS' : w'.S = some ⟨A, c, 0⟩ := lall.S _ hS
    have h3 := h'.closed (M0 := m.M) (S := ⟨A, c, 0⟩) (by show (m.M ++ _ ++ _).take _ = _; rw [List.append_assoc, List.take_left' rfl]) hS' h0.cls (fun a ha => by
      have ha : a ∈ [A, c] := ha
      simp only [List.mem_cons, List.not_mem_nil, or_false] at ha
      rcases ha with rfl | rfl
      · exact ⟨_, by omega, f1, _, gA', fun z => by cases z⟩
      · exact ⟨_, Nat.le_refl _, f2, _, gc', fun z => by cases z⟩) ⟨cells', seed', hA, hc⟩
    have em : (⟨m.M, 1⟩ : MM) = m := by rw [← hs]
    rw [em] at h3
    exact vl (.int r) m _ H' _ (Wd.le_cut lall (Nat.le_of_eq h0.len)) h3 rfl (q r hr0 hr1)
  · show (⟨_, 2⟩ : MM) = ⟨_, 2⟩
    congr 1
    rw [List.append_assoc, List.set_append_right _ _ (Nat.le_refl _), List.set_append_right _ _ (by omega), List.append_assoc]
    simp
end
end Dl

namespace Dl
open PySem L2
theorem moL_lst {ds : List D} : moL (some (.lst ds)) = some ds := rfl
theorem atI_cons0 {α : Type} {a : α} {l : List α} : atI (a :: l) 0 = some a := atI_nat (j := 0) rfl
theorem seqIx0 {n : Nat} (h : 0 < n) : seqIndex? 0 n = some 0 := PySem.StrLaws.seqIndex_nonneg (by decide) (by omega)
theorem ixN0 {n : Nat} (h : 0 < n) : ixN n 0 = some 0 := by
  unfold ixN
  rw [if_pos (by decide), if_pos (by omega)]; rfl
local macro_rules | `(tactic| walk_at "dl") => `(tactic| try simp only [dSeq, dSet, dOp, dUn, dVar, dC, dCB, dCons, dNil, dRet, dRetN, dIf, dB, dAnd, dOr, dNot, dDrop, dNext, dMethL, dSetIx, dAndV, dOrV, dNotV, dBlV, dIfE, dLst, dTup, dLstM, dCall, dChain, dAsg, dgName, dgTup, bindD, asT, dFor, diList, diRng1, diRng2, diEnumerate, diZip, diReversed, dLc, dLcM, dYes, wipeD, dAug, dSl, dpN, dpS,
  oI, oI0, oB0, oAdd, oNeg, oEq, oNe, oIx, oIsN, oNotN, isNon, oShl, oApp, oPop, oPopAt, cLen, cInt, cAbs, cSum, cMax2, cMin2, cList, cIsi, tyD, asL, asF, asK, moL_lst, ModC, DivC,
  List.getElem?_cons_zero, List.getElem?_cons_succ, List.set_cons_zero, List.set_cons_succ, List.getElem?_nil, List.length_cons, List.length_nil, List.length_map, Option.map_some, Option.bind_some, Option.isSome_some, if_true, true_and, and_true, MM.push])
theorem lcWM_fn {α β : Type} {inj : α → D} {out : β → D} {g : DG} {te : DE} {ρ : Env} {Φ : D → MM → Prop} (f : α → β) (m : MM) :
    ∀ (xs : List α) (acc : List D), (∀ x ∈ xs, ∀ (m' : MM) (Θ : D → MM → Prop), Θ (out (f x)) m' → g (inj x) ρ m' (fun ρ1 m1 => m1 = m' ∧ te ρ1 m' Θ XF)) → acc.length + xs.length ≤ LIM → Φ (.hnd m.M.length) (m.push (.lst (acc ++ (xs.map f).map out))) →
    lcWM g dYes te ρ Φ (xs.map inj) acc m
  | [], acc, _, _, h => by rw [List.map_nil, List.map_nil, List.append_nil] at h; exact h
  | x :: xs, acc, hg, hl, h => by
    rw [List.length_cons] at hl
    have z := hg x List.mem_cons_self (m.push (.lst acc)) (fun y m3 => m3 = m.push (.lst acc) ∧ acc.length < LIM ∧ lcWM g dYes te ρ Φ (xs.map inj) (acc ++ [y]) m) ⟨rfl, by omega, lcWM_fn f m xs (acc ++ [out (f x)]) (fun y hy => hg y (List.mem_cons_of_mem _ hy)) (by rw [List.length_append, List.length_singleton]; omega) (by
        rw [List.map_cons, List.map_cons] at h
        rw [List.append_assoc]
        exact h)⟩
    have key : (fun (ρ1 : Dl.Env) (m1 : MM) => m1 = m.push (.lst acc) ∧ te ρ1 (m.push (.lst acc)) (fun y m3 => m3 = m.push (.lst acc) ∧ acc.length < LIM ∧ lcWM g dYes te ρ Φ (xs.map inj) (acc ++ [y]) m) XF)
        = (fun ρ1 m1 => m1 = m.push (.lst acc) ∧ dYes ρ1 (m.push (.lst acc)) (fun b m2 => m2 = m.push (.lst acc) ∧ if b = true then te ρ1 (m.push (.lst acc)) (fun y m3 => m3 = m.push (.lst acc) ∧ acc.length < LIM ∧ lcWM g dYes te ρ Φ (xs.map inj) (acc ++ [y]) m) XF
          else lcWM g dYes te ρ Φ (xs.map inj) acc m) XF) := by
      funext ρ1 m1
      unfold dYes
      simp
    rw [key] at z
    exact z
def W_draw1 : DS := dSeq (dSet 2 (dOp oIx (dVar 0) (dC (.int 0)))) (dSeq (dWhile (dAnd (dB (dOp oGt (dCB cLen (dCons (dVar 2) (dNil))) (dC (.int 0)))) (dB (dOp oEq (dOp oIx (dVar 2) (dC (.int 0))) (dC (.int 0))))) (dDrop (dMethL oPopAt (dVar 2) (dCons (dC (.int 0)) (dNil))))) (dSeq (dIf (dB (dOp oGt (dCB cLen (dCons (dVar 2) (dNil))) (dC (.int 0)))) (dSeq (dSet 4 (dOp oIx (dVar 2) (dC (.int 0)))) (dSeq (dSetIx (dOp oDiv (dVar 4) (dVar 1)) (dVar 2) (dC (.int 0))) (dRet (dOp oMod (dCB cInt (dCons (dVar 4) (dNil))) (dVar 1))))) (dNext)) (dSeq (dSet 3 (dOp oMod (dCB cInt (dCons (dOp oAdd (dOp oMul (dOp oIx (dVar 0) (dC (.int 1))) (dC (.int 48271))) (dC (.int 12345))) (dNil))) (dC (.int 2147483647)))) (dSeq (dSetIx (dVar 3) (dVar 0) (dC (.int 1))) (dRet (dOp oMod (dCB cInt (dCons (dOp oDiv (dVar 3) (dC (.int 64))) (dNil))) (dVar 1)))))))
theorem rd_draw1 : ∀ ds m Φ Ψ, ds.length = 2 → C_drawO ds m Φ Ψ → W_draw1 { nx := fun _ m' => Φ .non m', rt := Φ } (fun _ => Ψ) (ds.map some ++ List.replicate (5 - ds.length) none) m := by
  intro ds m Φ Ψ _ h
  obtain ⟨k, j, cells, seed, n, rfl, hn, hn2, hk, hj, hjk, q⟩ := h
  change W_draw1 _ _ [some (D.hnd k), some (D.int n), none, none, none] m
  unfold W_draw1
  have jl : j < m.M.length := (List.getElem?_eq_some_iff.mp hj).1
  have kl : k < m.M.length := (List.getElem?_eq_some_iff.mp hk).1
  have setj : ∀ x, (m.M.set j x)[j]? = some x := fun x => List.getElem?_set_self jl
  have setk : ∀ x, (m.M.set j x)[k]? = some (.lst [.hnd j, .int seed]) := fun x => by rw [List.getElem?_set_ne hjk]; exact hk
  walk_at "dl"
  simp only [hk, moL_lst]
  refine ⟨_, rfl, ?_⟩
  refine ⟨fun c ρ m' => ∃ cs : List Int, c = cs.length ∧ ρ = [some (D.hnd k), some (D.int n), some (D.hnd j), none, none] ∧ m' = ⟨m.M.set j (.lst (cs.map D.int)), m.s⟩, ⟨_, cells, rfl, rfl, ?_⟩, ?_⟩
  · obtain ⟨M, s⟩ := m
    show (⟨M, s⟩ : MM) = ⟨M.set j _, s⟩
    congr 1
    apply List.ext_getElem?
    intro i
    by_cases hi : j = i
    · subst hi; rw [setj]; exact hj
    · rw [List.getElem?_set_ne hi]
  · rintro c ρ m' ⟨cs, rfl, rfl, rfl⟩
    walk_at "dl"
    simp only [setj, moL_lst]
    walk_at "dl"
    by_cases h0 : (0 : Int) < (cs.length : Nat)
    · obtain ⟨x, r, rfl⟩ : ∃ x r, cs = x :: r := by
        cases cs with
        | nil => simp at h0
        | cons x r => exact ⟨x, r, rfl⟩
      simp only [decide_eq_true h0, if_true, List.map_cons, atI_cons0]
      refine ⟨D.int x, rfl, rfl, rfl, ?_⟩
      rw [eqD_int]
      by_cases hx : x = 0
      · simp only [decide_eq_true hx, if_true]
        walk_at "dl"
        try simp only [setj, moL_lst, List.map_cons]
        refine ⟨⟨by decide, by decide⟩, 0, .int x, seqIx0 (by simp), rfl, r.length, by simp, r, rfl, ?_⟩
        rw [List.set_set]; rfl
      · simp only [decide_eq_false hx, Bool.false_eq_true, if_false, decide_eq_true h0, if_true]
        walk_at "dl"
        try simp only [setj, moL_lst, List.map_cons, atI_cons0]
        walk_at "dl"
        have h0' : (0 : Int) < ((r.length + 1 : Nat) : Int) := by omega
        try simp only [decide_eq_true h0', if_true]
        refine ⟨D.int x, rfl, ?_⟩
        walk_at "dl"
        try simp only [setj, moL_lst, List.map_cons, atI_cons0]
        refine ⟨⟨hn, hn2⟩, 0, ixN0 (by simp), hn, ?_⟩
        have z := q (x % n) ((x / n) :: r) seed (Int.emod_nonneg _ (by omega)) (Int.emod_lt_of_pos _ hn)
        rw [List.set_set]
        have e : (m.M.set j (.lst (((x / n) :: r).map D.int))).set k (.lst [.hnd j, .int seed]) = m.M.set j (.lst (((x / n) :: r).map D.int)) := by
          apply List.ext_getElem?
          intro i
          by_cases hi : k = i
          · subst hi; rw [List.getElem?_set_self (by rw [List.length_set]; exact kl), setk]
          · rw [List.getElem?_set_ne hi]
        rw [e] at z
        exact z
    · simp only [decide_eq_false h0, Bool.false_eq_true, if_false]
      walk_at "dl"
      try simp only [setj, setk, moL_lst]
      walk_at "dl"
      try simp only [decide_eq_false h0, Bool.false_eq_true, if_false]
      walk_at "dl"
      try simp only [setj, setk, moL_lst]
      refine ⟨_, rfl, ?_⟩
      walk_at "dl"
      try simp only [setj, setk, moL_lst]
      refine ⟨.inr (.inl ⟨by decide, by decide⟩), by decide, 1, rfl, ⟨by decide, by decide⟩, hn, ?_⟩
      exact q _ cs _ (Int.emod_nonneg _ (by omega)) (Int.emod_lt_of_pos _ hn)
def W_state : DS := dSeq (dSet 1 (dC (.int 7))) (dSeq (dFor (diList (dVar 0)) (dgName 2) (dSet 1 (dOp oMod (dCB cInt (dCons (dOp oAdd (dOp oMul (dVar 1) (dC (.int 31))) (dVar 2)) (dNil))) (dC (.int 1000003))))) (dRet (dLstM (dCons (dLcM (diList (dVar 0)) (dgName 2) (dYes) (dCB cAbs (dCons (dVar 2) (dNil))) [2]) (dCons (dOp oAdd (dVar 1) (dC (.int 1))) (dNil))))))
theorem rd_state : ∀ ds m Φ Ψ, ds.length = 1 → C_stateO ds m Φ Ψ → W_state { nx := fun _ m' => Φ .non m', rt := Φ } (fun _ => Ψ) (ds.map some ++ List.replicate (3 - ds.length) none) m := by
  intro ds m Φ Ψ _ h
  obtain ⟨⟨ns, rfl, hlen⟩, q⟩ := h
  change W_state _ _ [some (D.rol (ns.map D.int)), none, none] m
  unfold W_state
  walk_at "dl"
  refine forW_map (inj := D.int) (fun _ ρ m' => ∃ (s : Int) (v : Option D), ρ = [some (D.rol (ns.map D.int)), some (.int s), v] ∧ m' = m) ?_ ?_ ns _ _ ⟨7, none, rfl, rfl⟩
  · rintro x r kk hk ρ m' ⟨s, v, rfl, rfl⟩
    walk_at "dl"
    exact ⟨.inr (.inl ⟨by decide, by decide⟩), by decide, hk _ _ ⟨_, _, rfl, rfl⟩⟩
  · rintro ρ m' ⟨s, v, rfl, rfl⟩
    walk_at "dl"
    refine lcWM_fn (f := fun x => if x < 0 then -x else x) (out := D.int) _ ns [] (fun x _ m2 Θ hΘ => ?_) (by rw [List.length_nil]; show 0 + ns.length ≤ 16777216; omega) ?_
    · walk_at "dl"
      exact hΘ
    · walk_at "dl"
      have z := q (ns.map fun x => if x < 0 then -x else x) (s + 1)
      refine ⟨by decide, ?_⟩
      rw [List.length_append, List.length_singleton, List.nil_append]
      exact z

theorem mulL {i j : Int} (h0 : 0 ≤ i) (h1 : i ≤ 4294967296) : MulC i j := .inl ⟨by omega, by omega⟩
/-- an item by an int -/
def gi (xs : List Int) (z : Int) : Int := xs.getD z.toNat 0
theorem ixN_of {n : Nat} {z : Int} (h0 : 0 ≤ z) (h : z < n) : ixN n z = some z.toNat := by
  unfold ixN
  rw [if_pos h0, if_pos h]
def C_pick : DC := fun ds m Φ _ => ∃ row, ds = [.st 0, .lst row] ∧ m.s = 1 ∧ 0 < row.length ∧ row.length ≤ 1000 ∧ ∀ d ∈ row, Φ d m
def W_pick : DS := dRet (dOp oIx (dVar 1) (dCall 2 C_draw (dCons (dVar 0) (dCons (dCB cLen (dCons (dVar 1) (dNil))) (dNil)))))
theorem rd_pick : ∀ ds m Φ Ψ, ds.length = 2 → C_pick ds m Φ Ψ → W_pick { nx := fun _ m' => Φ .non m', rt := Φ } (fun _ => Ψ) (ds.map some ++ List.replicate (2 - ds.length) none) m := by
  intro ds m Φ Ψ _ h
  obtain ⟨row, rfl, hs, h0, h1, q⟩ := h
  change W_pick _ _ [some (D.st 0), some (.lst row)] m
  unfold W_pick
  walk_at "dl"
  refine ⟨_, rfl, hs, by omega, by omega, fun r hr0 hr1 => ?_⟩
  walk_at "dl"
  have hl : r.toNat < row.length := by omega
  refine ⟨row[r.toNat], ?_, q _ (List.getElem_mem hl)⟩
  unfold atI
  rw [ixN_of hr0 hr1]
  exact List.getElem?_eq_getElem hl
end Dl

namespace Dl
/-! ### sums and remainders -/
/-- like mod p -/
def Cg (p a b : Int) : Prop := a % p = b % p
section
variable {p a b c d : Int}
theorem Cg.refl : Cg p a a := rfl
theorem Cg.of_eq (h : a = b) : Cg p a b := by rw [h]; exact .refl
theorem Cg.symm (h : Cg p a b) : Cg p b a := Eq.symm h
theorem Cg.trans (h : Cg p a b) (g : Cg p b c) : Cg p a c := Eq.trans h g
theorem Cg.add (h : Cg p a b) (g : Cg p c d) : Cg p (a + c) (b + d) := by
  unfold Cg at *
  rw [Int.add_emod, h, g, ← Int.add_emod]
theorem Cg.mul (h : Cg p a b) (g : Cg p c d) : Cg p (a * c) (b * d) := by
  unfold Cg at *
  rw [Int.mul_emod, h, g, ← Int.mul_emod]
theorem Cg.neg (h : Cg p a b) : Cg p (-a) (-b) := by
  have z := Cg.mul (Cg.refl (p := p) (a := -1)) h
  rw [← Int.neg_eq_neg_one_mul, ← Int.neg_eq_neg_one_mul] at z
  exact z
theorem Cg.sub (h : Cg p a b) (g : Cg p c d) : Cg p (a - c) (b - d) := by
  rw [Int.sub_eq_add_neg, Int.sub_eq_add_neg]
  exact h.add g.neg
theorem Cg.mod : Cg p (a % p) a := Int.emod_emod_of_dvd _ (Int.dvd_refl _)
end
/-- f 0 + … + f (n-1) -/
def S : Nat → (Nat → Int) → Int
  | 0, _ => 0
  | n + 1, f => S n f + f n
theorem S_cg {p : Int} {f g : Nat → Int} : ∀ (n : Nat), (∀ i < n, Cg p (f i) (g i)) → Cg p (S n f) (S n g)
  | 0, _ => .refl
  | n + 1, h => (S_cg n fun i hi => h i (by omega)).add (h n (by omega))
theorem S_eq {f g : Nat → Int} : ∀ (n : Nat), (∀ i < n, f i = g i) → S n f = S n g
  | 0, _ => rfl
  | n + 1, h => by
    show S n f + f n = S n g + g n
    rw [S_eq n fun i hi => h i (by omega), h n (by omega)]
theorem S_pair {f : Nat → Int} : ∀ (n : Nat), S (2 * n) f = S n fun i => f (2 * i) + f (2 * i + 1)
  | 0 => rfl
  | n + 1 => by
    show S (2 * n) f + f (2 * n) + f (2 * n + 1) = S n _ + (f (2 * n) + f (2 * n + 1))
    rw [S_pair n, Int.add_assoc]
theorem S_head {f : Nat → Int} : ∀ (n : Nat), S (n + 1) f = f 0 + S n fun i => f (i + 1)
  | 0 => by show 0 + f 0 = f 0 + 0; omega
  | n + 1 => by
    show S (n + 1) f + f (n + 1) = f 0 + (S n _ + f (n + 1))
    rw [S_head n, Int.add_assoc]
theorem gi_nat {xs : List Int} {n : Nat} : gi xs (n : Nat) = xs.getD n 0 := by
  unfold gi
  rw [Int.toNat_natCast]
theorem gi_app {xs ys : List Int} {n : Nat} : gi (xs ++ ys) (n : Nat) = if n < xs.length then gi xs (n : Nat) else gi ys ((n - xs.length : Nat) : Int) := by
  rw [gi_nat, gi_nat, gi_nat, List.getD_eq_getElem?_getD, List.getElem?_append]
  split <;> rw [List.getD_eq_getElem?_getD]
theorem gi_map {α : Type} {xs : List α} {f : α → Int} {n : Nat} (h : n < xs.length) : gi (xs.map f) (n : Nat) = f (xs[n]) := by
  rw [gi_nat, List.getD_eq_getElem?_getD, List.getElem?_map, List.getElem?_eq_getElem h]; rfl
theorem gi_mapI {xs : List Int} {f : Int → Int} {n : Nat} (h : n < xs.length) : gi (xs.map f) (n : Nat) = f (gi xs (n : Nat)) := by
  rw [gi_map h, gi_nat, List.getD_eq_getElem?_getD, List.getElem?_eq_getElem h]; rfl
theorem gi_range {f : Nat → Int} {n k : Nat} (h : n < k) : gi ((List.range k).map f) (n : Nat) = f n := by
  rw [gi_map (by rw [List.length_range]; exact h), List.getElem_range]
/-- how near the corner z lies to the point: the first number is the lowest bit -/
def wt : List Int → Nat → Int
  | [], _ => 1
  | x :: r, z => (if z % 2 = 1 then x else 1 - x) * wt r (z / 2)
end Dl

namespace Dl
open PySem L2 PyProof.Rows
/-! ### repr: asked by the law's own def alone, where no repr is under way -/
/-- small enough to be written out: depth at most n, weight at most k -/
structure OkR (n k : Nat) (d : D) : Prop where
  lay : okE n d = true
  shw : (toPy d).showable = true
  lvs : (toPy d).leavesShort 13 = true
  wgt : (toPy d).weight ≤ k
theorem OkR.int {n k : Nat} {i : Int} (h1 : -1000000000000 < i) (h2 : i < 1000000000000) (hk : 40 ≤ k) : OkR n k (.int i) where
  lay := rfl
  shw := by
    show decide (i.natAbs.log2 < 1920) = true

    by_cases h0 : i.natAbs = 0
    · rw [h0]; decide
    · have z := (Nat.log2_lt h0).mpr (show i.natAbs < 2 ^ 40 by omega)
      exact decide_eq_true (Nat.lt_trans z (by decide))
  lvs := decide_eq_true (PyData.shown_int_le (show i.natAbs < 10 ^ 12 by omega))
  wgt := by
    show (if i == 0 then 0 else i.natAbs.log2 + 1) ≤ k
    split
    · omega
    · have h0 : i.natAbs ≠ 0 := by
        rename_i h
        intro z
        apply h
        have : i = 0 := by omega
        rw [this]; rfl
      have := (Nat.log2_lt h0).mpr (show i.natAbs < 2 ^ 40 by omega)
      omega
theorem OkR.str {n k : Nat} {x : Str} (h : PyData.strOk x = true) (hl : (x.cps.toList.all fun c => decide (c < 16 ^ 8)) = true) (hk : x.cps.size ≤ k) : OkR n k (.str x) := ⟨h, rfl, hl, hk⟩
theorem OkR.bl {n k : Nat} {b : Bool} : OkR n k (.bl b) := ⟨rfl, rfl, rfl, Nat.zero_le _⟩
theorem OkR.non {n k : Nat} : OkR n k .non := ⟨rfl, rfl, rfl, Nat.zero_le _⟩
theorem okRs {n k : Nat} : ∀ {ds : List D}, (∀ d ∈ ds, OkR n k d) → okEs n ds = true ∧ PyData.showableAll (toPys ds) = true ∧ PyData.leavesShortAll 13 (toPys ds) = true ∧ PyData.weightAll (toPys ds) ≤ ds.length * (k + 1)
  | [], _ => ⟨rfl, rfl, rfl, by simp [toPys, PyData.weightAll]⟩
  | d :: ds, h => by
    obtain ⟨a, b, c, e⟩ := h d List.mem_cons_self
    obtain ⟨a2, b2, c2, e2⟩ := okRs fun x hx => h x (List.mem_cons_of_mem _ hx)
    refine ⟨?_, ?_, ?_, ?_⟩
    · show (okE n d && okEs n ds) = true
      rw [a, a2]; rfl
    · show (PyData.showable (toPy d) && PyData.showableAll (toPys ds)) = true
      rw [b, b2]; rfl
    · show (PyData.leavesShort 13 (toPy d) && PyData.leavesShortAll 13 (toPys ds)) = true
      rw [c, c2]; rfl
    · show PyData.weight (toPy d) + 1 + PyData.weightAll (toPys ds) ≤ (ds.length + 1) * (k + 1)
      rw [Nat.add_mul, Nat.one_mul]
      omega
theorem OkR.lst {n k j : Nat} {ds : List D} (h : ∀ d ∈ ds, OkR n k d) (hj : ds.length * (k + 1) ≤ j) : OkR (n + 1) j (.lst ds) := by
  obtain ⟨a, b, c, e⟩ := okRs h
  exact ⟨by show (decide (0 < n + 1) && okEs n ds) = true; rw [a]; simp, b, c, Nat.le_trans e hj⟩
theorem OkR.tup {n k j : Nat} {ds : List D} (h : ∀ d ∈ ds, OkR n k d) (hj : ds.length * (k + 1) ≤ j) : OkR (n + 1) j (.tup ds) := by
  obtain ⟨a, b, c, e⟩ := okRs h
  exact ⟨by show (decide (0 < n + 1) && okEs n ds) = true; rw [a]; simp, b, c, Nat.le_trans e hj⟩
/-! ### the law's own call, the surroundings known -/
section
variable {P : Program} {w : World} {K : PySem.W.Frag} {mg : Str → Option Value} {base : Heap}
end
/-! ### odds and ends -/
/-- a comprehension's scope within another one -/
theorem blkOk_in {X : Cx} {N : List Str} {s : Shared} {H : Hp} {sc scope scope2 : Scope} {C : Addr} {cl : List (Str × Addr)} {fp : List Addr} {own : List (Str × Nat)} (hN : X.N = N) (hs : X.env.scope = sc) (h : BlkOk N (relS scope sc) scope2 own) :
    BlkOk (X.blk s H scope (compEnvC scope cl C X.env) fp).N (X.blk s H scope (compEnvC scope cl C X.env) fp).env.scope scope2 own := by
  subst hN; subst hs
  exact h
theorem room_un {k : Nat} {A : Around} (r : Room k A) : A.units + 100 < cLine := by have := r.un; omega
/-- one statement at a time: what follows is held back -/
theorem dSeq_k {a b : DS} {N : DN} {Ψ : XS} {ρ : Dl.Env} {m : MM} (h : ∀ k : Dl.Env → MM → Prop, k = b N Ψ → a { N with nx := k } Ψ ρ m) : dSeq a b N Ψ ρ m := h _ rfl
end Dl

namespace Dl
/-! ### primes -/
structure Prim (p : Int) : Prop where
  two : 2 ≤ p
  euc : ∀ a b : Int, p ∣ a * b → p ∣ a ∨ p ∣ b
/-- no number from lo to lo + 2^k - 1 whose square is at most p divides p -/
def noDiv (p : Nat) : Nat → Nat → Bool
  | lo, 0 => (p % lo != 0) || decide (p < lo * lo)
  | lo, k + 1 => noDiv p lo k && noDiv p (lo + 2 ^ k) k
theorem noDiv_ok {p : Nat} : ∀ (k lo : Nat), noDiv p lo k = true → ∀ d, lo ≤ d → d < lo + 2 ^ k → d * d ≤ p → ¬ d ∣ p
  | 0, lo, h, d, h1, h2, h3 => by
    intro h4
    have e : d = lo := by omega
    subst e
    unfold noDiv at h
    have : p % d = 0 := Nat.mod_eq_zero_of_dvd h4
    simp only [this, bne_self_eq_false, Bool.false_or, decide_eq_true_eq] at h
    omega
  | k + 1, lo, h, d, h1, h2, h3 => by
    have h : (noDiv p lo k && noDiv p (lo + 2 ^ k) k) = true := h
    rw [Bool.and_eq_true] at h
    rw [Nat.pow_succ] at h2
    by_cases hd : d < lo + 2 ^ k
    · exact noDiv_ok k lo h.1 d h1 hd h3
    · exact noDiv_ok k (lo + 2 ^ k) h.2 d (by omega) (by omega) h3
theorem prime_nat {p k : Nat} (hp : 2 ≤ p) (hp2 : p < (2 + 2 ^ k) * (2 + 2 ^ k)) (h : noDiv p 2 k = true) : ∀ d, d ∣ p → d = 1 ∨ d = p := by
  intro d hd
  have h0 : 0 < d := Nat.pos_of_dvd_of_pos hd (by omega)
  obtain ⟨e, he⟩ := hd
  by_cases h1 : d = 1
  · exact .inl h1
  by_cases h2 : e = 1
  · exact .inr (by rw [he, h2, Nat.mul_one])
  have e0 : 0 < e := by
    rcases Nat.eq_zero_or_pos e with z | z
    · rw [z, Nat.mul_zero] at he; omega
    · exact z
  have small : ∀ x y : Nat, 2 ≤ x → x ≤ y → p = x * y → False := fun x y hx hxy hxe => by
    have hs : x * x ≤ p := by rw [hxe]; exact Nat.mul_le_mul_left _ hxy
    have hlt : x < 2 + 2 ^ k := by
      rcases Nat.lt_or_ge x (2 + 2 ^ k) with z | z
      · exact z
      · have := Nat.mul_le_mul z z
        omega
    exact noDiv_ok k 2 h x hx hlt hs ⟨y, hxe⟩
  rcases Nat.le_total d e with z | z
  · exact (small d e (by omega) z he).elim
  · exact (small e d (by omega) z (by rw [he, Nat.mul_comm])).elim
theorem prim_of {p : Nat} (hp : 2 ≤ p) (h : ∀ d, d ∣ p → d = 1 ∨ d = p) : Prim (p : Int) := by
  refine ⟨by omega, fun a b hab => ?_⟩
  have hn : p ∣ a.natAbs * b.natAbs := by
    have z := Int.natAbs_dvd_natAbs.mpr hab
    rw [Int.natAbs_mul] at z
    exact z
  rcases h _ (Nat.gcd_dvd_left p a.natAbs) with z | z
  · exact .inr (Int.natAbs_dvd_natAbs.mp (Nat.Coprime.dvd_of_dvd_mul_left z hn))
  · refine .inl (Int.natAbs_dvd_natAbs.mp ?_)
    have g := Nat.gcd_dvd_right p a.natAbs
    rw [z] at g
    exact g
theorem prim_chk {p k : Nat} (h : (decide (2 ≤ p) && decide (p < (2 + 2 ^ k) * (2 + 2 ^ k)) && noDiv p 2 k) = true) : Prim (p : Int) := by
  simp only [Bool.and_eq_true, decide_eq_true_eq] at h
  exact prim_of h.1.1 (prime_nat h.1.1 h.1.2 h.2)
/-! ### remainders by a prime -/
theorem Cg.iff_dvd {p a b : Int} : Cg p a b ↔ p ∣ a - b := Int.emod_eq_emod_iff_emod_sub_eq_zero.trans ⟨Int.dvd_of_emod_eq_zero, Int.emod_eq_zero_of_dvd⟩
theorem Cg.zero_iff {p a : Int} : Cg p a 0 ↔ p ∣ a := by
  rw [Cg.iff_dvd, Int.sub_zero]
theorem Cg.pow {p a b : Int} (h : Cg p a b) : ∀ n : Nat, Cg p (a ^ n) (b ^ n)
  | 0 => by rw [Int.pow_zero, Int.pow_zero]; exact .refl
  | n + 1 => by
    rw [Int.pow_succ, Int.pow_succ]
    exact (Cg.pow h n).mul h
theorem Prim.cancel {p a b c : Int} (P : Prim p) (h : Cg p (a * b) (a * c)) (ha : ¬ Cg p a 0) : Cg p b c := by
  rw [Cg.iff_dvd, ← Int.mul_sub] at h
  rcases P.euc _ _ h with z | z
  · exact absurd (Cg.zero_iff.mpr z) ha
  · exact Cg.iff_dvd.mpr z
theorem Prim.mul_zero {p a b : Int} (P : Prim p) (h : Cg p (a * b) 0) : Cg p a 0 ∨ Cg p b 0 := by
  rw [Cg.zero_iff, Cg.zero_iff]
  exact P.euc _ _ (Cg.zero_iff.mp h)
theorem Prim.one_ne {p : Int} (P : Prim p) : ¬ Cg p 1 0 := fun h => by
  have := P.two
  have h := Int.le_of_dvd (by decide) (Cg.zero_iff.mp h)
  omega
/-- two numbers near each other -/
theorem near_ne {p i j : Int} (h1 : i ≠ j) (h2 : i - j < p) (h3 : j - i < p) : ¬ Cg p (i - j) 0 := fun h => by
  obtain ⟨c, hc⟩ := Cg.zero_iff.mp h
  rcases Int.lt_trichotomy c 0 with z | z | z
  · have : p * c ≤ p * (-1) := Int.mul_le_mul_of_nonneg_left (by omega) (by omega)
    omega
  · rw [z, Int.mul_zero] at hc; omega
  · have : p * 1 ≤ p * c := Int.mul_le_mul_of_nonneg_left (by omega) (by omega)
    omega

/-! ### the small theorem of Fermat -/
def choose : Nat → Nat → Nat
  | _, 0 => 1
  | 0, _ + 1 => 0
  | n + 1, k + 1 => choose n k + choose n (k + 1)
theorem choose_big : ∀ (n k : Nat), n < k → choose n k = 0
  | 0, k + 1, _ => rfl
  | n + 1, k + 1, h => by
    show choose n k + choose n (k + 1) = 0
    rw [choose_big n k (by omega), choose_big n (k + 1) (by omega)]
theorem choose_self : ∀ n : Nat, choose n n = 1
  | 0 => rfl
  | n + 1 => by
    show choose n n + choose n (n + 1) = 1
    rw [choose_self n, choose_big n (n + 1) (by omega)]
theorem choose_abs : ∀ (n k : Nat), (k + 1) * choose (n + 1) (k + 1) = (n + 1) * choose n k
  | 0, 0 => rfl
  | 0, k + 1 => by
    show (k + 1 + 1) * (choose 0 (k + 1) + choose 0 (k + 1 + 1)) = (0 + 1) * choose 0 (k + 1)
    rw [choose_big 0 (k + 1) (by omega), choose_big 0 (k + 1 + 1) (by omega)]; simp
  | n + 1, 0 => by
    have h := choose_abs n 0
    show (0 + 1) * (choose (n + 1) 0 + choose (n + 1) (0 + 1)) = (n + 1 + 1) * 1
    have e : choose (n + 1) 0 = 1 := by unfold choose; rfl
    have e2 : choose n 0 = 1 := by cases n <;> rfl
    rw [e2] at h
    rw [e]; omega
  | n + 1, k + 1 => by
    have h1 := choose_abs n k
    have h2 := choose_abs n (k + 1)
    show (k + 1 + 1) * (choose (n + 1) (k + 1) + choose (n + 1) (k + 1 + 1)) = (n + 1 + 1) * choose (n + 1) (k + 1)
    have h3 : choose (n + 1) (k + 1) = choose n k + choose n (k + 1) := rfl
    rw [Nat.mul_add, h2]
    have e1 : (k + 1 + 1) * choose (n + 1) (k + 1) = (k + 1) * choose (n + 1) (k + 1) + choose (n + 1) (k + 1) := by rw [Nat.add_mul (k + 1), Nat.one_mul]
    have e2 : (n + 1 + 1) * choose (n + 1) (k + 1) = (n + 1) * choose (n + 1) (k + 1) + choose (n + 1) (k + 1) := by rw [Nat.add_mul (n + 1), Nat.one_mul]
    rw [e1, e2, h1]
    have e3 : (n + 1) * choose (n + 1) (k + 1) = (n + 1) * choose n k + (n + 1) * choose n (k + 1) := by rw [h3, Nat.mul_add]
    omega
theorem S_add {f g : Nat → Int} : ∀ n : Nat, S n (fun i => f i + g i) = S n f + S n g
  | 0 => rfl
  | n + 1 => by
    show S n (fun i => f i + g i) + (f n + g n) = S n f + f n + (S n g + g n)
    rw [S_add n]; omega
theorem S_mul {c : Int} {f : Nat → Int} : ∀ n : Nat, S n (fun i => c * f i) = c * S n f
  | 0 => by show (0 : Int) = c * 0; omega
  | n + 1 => by
    show S n (fun i => c * f i) + c * f n = c * (S n f + f n)
    rw [S_mul n, Int.mul_add]
theorem binom (a : Int) : ∀ n : Nat, (a + 1) ^ n = S (n + 1) fun k => (choose n k : Int) * a ^ k
  | 0 => by
    show (a + 1) ^ 0 = 0 + ((1 : Nat) : Int) * a ^ 0
    rw [Int.pow_zero, Int.pow_zero]; rfl
  | n + 1 => by
    rw [Int.pow_succ, binom a n, Int.mul_add, Int.mul_one, S_head (n + 1)]
    have e0 : ((choose (n + 1) 0 : Nat) : Int) * a ^ 0 = 1 := by
      have : choose (n + 1) 0 = 1 := by unfold choose; rfl
      rw [this, Int.pow_zero]; rfl
    rw [e0]
    have e1 : (S (n + 1) fun k => ((choose (n + 1) (k + 1) : Nat) : Int) * a ^ (k + 1)) = (S (n + 1) fun k => (choose n k : Int) * a ^ (k + 1)) + S (n + 1) fun k => (choose n (k + 1) : Int) * a ^ (k + 1) := by
      rw [← S_add]
      refine S_eq _ fun k _ => ?_
      show (((choose n k + choose n (k + 1) : Nat)) : Int) * a ^ (k + 1) = _
      rw [Int.natCast_add, Int.add_mul]
    have e2 : (S (n + 1) fun k => (choose n k : Int) * a ^ (k + 1)) = (S (n + 1) fun k => (choose n k : Int) * a ^ k) * a := by
      rw [Int.mul_comm _ a, ← S_mul]
      refine S_eq _ fun k _ => ?_
      show _ = a * ((choose n k : Int) * a ^ k)
      rw [Int.pow_succ]
      grind
    have e3 : (S (n + 1) fun k => (choose n (k + 1) : Int) * a ^ (k + 1)) + 1 = S (n + 1) fun k => (choose n k : Int) * a ^ k := by
      show (S n fun k => (choose n (k + 1) : Int) * a ^ (k + 1)) + ((choose n (n + 1) : Nat) : Int) * a ^ (n + 1) + 1 = _
      rw [choose_big n (n + 1) (by omega), S_head n]
      have : ((choose n 0 : Nat) : Int) * a ^ 0 = 1 := by
        have : choose n 0 = 1 := by cases n <;> rfl
        rw [this, Int.pow_zero]; rfl
      rw [this]
      show _ + (0 : Int) * a ^ (n + 1) + 1 = _
      omega
    rw [e1, e2]
    omega
theorem Prim.choose {p k : Nat} (P : Prim (p : Int)) (h0 : 0 < k) (h1 : k < p) : Cg (p : Int) (choose p k : Int) 0 := by
  obtain ⟨k, rfl⟩ : ∃ j, k = j + 1 := ⟨k - 1, by omega⟩
  obtain ⟨q, rfl⟩ : ∃ q, p = q + 1 := ⟨p - 1, by omega⟩
  have e := choose_abs q k
  have d : ((q + 1 : Nat) : Int) ∣ ((k + 1 : Nat) : Int) * (Dl.choose (q + 1) (k + 1) : Int) := by
    rw [← Int.natCast_mul, e, Int.natCast_mul]
    exact Int.dvd_mul_right _ _
  rcases P.euc _ _ d with z | z
  · have := Int.le_of_dvd (by omega) z
    omega
  · exact Cg.zero_iff.mpr z
theorem fermat_succ {p : Nat} (P : Prim (p : Int)) (a : Int) : Cg (p : Int) ((a + 1) ^ p) (a ^ p + 1) := by
  rw [binom]
  obtain ⟨q, rfl⟩ : ∃ q, p = q + 1 := ⟨p - 1, by have := P.two; omega⟩
  rw [S_head]
  show Cg _ (((Dl.choose (q + 1) 0 : Nat) : Int) * a ^ 0 + ((S q fun k => (Dl.choose (q + 1) (k + 1) : Int) * a ^ (k + 1)) + ((Dl.choose (q + 1) (q + 1) : Nat) : Int) * a ^ (q + 1))) _
  rw [choose_self]
  have e0 : ((Dl.choose (q + 1) 0 : Nat) : Int) * a ^ 0 = 1 := by
    have : Dl.choose (q + 1) 0 = 1 := by unfold Dl.choose; rfl
    rw [this, Int.pow_zero]; rfl
  rw [e0]
  have z : Cg ((q + 1 : Nat) : Int) (S q fun k => (Dl.choose (q + 1) (k + 1) : Int) * a ^ (k + 1)) (S q fun _ => 0) := S_cg q fun k hk => by
    have := (P.choose (k := k + 1) (by omega) (by omega)).mul (Cg.refl (a := a ^ (k + 1)))
    rw [Int.zero_mul] at this
    exact this
  have z0 : ∀ n, S n (fun _ => 0) = 0 := fun n => by
    induction n with
    | zero => rfl
    | succ n ih => show S n _ + 0 = 0; rw [ih]; rfl
  rw [z0] at z
  refine (Cg.add .refl (z.add .refl)).trans (.of_eq ?_)
  show (1 : Int) + (0 + ((1 : Nat) : Int) * a ^ (q + 1)) = _
  omega
theorem fermat_nat {p : Nat} (P : Prim (p : Int)) : ∀ n : Nat, Cg (p : Int) ((n : Int) ^ p) n
  | 0 => by
    have : ((0 : Nat) : Int) ^ p = 0 := by
      obtain ⟨q, rfl⟩ : ∃ q, p = q + 1 := ⟨p - 1, by have := P.two; omega⟩
      rw [Int.pow_succ]
      exact Int.mul_zero _
    rw [this]; exact .refl
  | n + 1 => by
    rw [Int.natCast_add]
    exact (fermat_succ P n).trans ((fermat_nat P n).add .refl)
theorem fermat {p : Nat} (P : Prim (p : Int)) (a : Int) : Cg (p : Int) (a ^ p) a := by
  have hp := P.two
  have h : a % (p : Int) = ((a % (p : Int)).toNat : Int) := (Int.toNat_of_nonneg (Int.emod_nonneg _ (by omega))).symm
  have e : Cg (p : Int) (((a % (p : Int)).toNat : Nat) : Int) a := by
    rw [← h]
    exact .mod
  exact (e.symm.pow p).trans ((fermat_nat P _).trans e)
/-- the inverse by a power -/
theorem fermat_inv {p : Int} (P : Prim p) {a : Int} (h : ¬ Cg p a 0) : Cg p (a ^ (p - 2).toNat * a) 1 := by
  have hp := P.two
  obtain ⟨n, rfl⟩ := Int.eq_ofNat_of_zero_le (show 0 ≤ p by omega)
  have e : ((n : Int) - 2).toNat + 1 + 1 = n := by omega
  have f := fermat P a
  rw [← e, Int.pow_succ, Int.pow_succ] at f
  refine P.cancel (a := a) ?_ h
  rw [Int.mul_one, Int.mul_comm a]
  rw [e] at f
  exact f
end Dl

namespace Dl
/-! ### polynomials by their coefficients -/
def pev : List Int → Int → Int
  | [], _ => 0
  | c :: cs, t => c + t * pev cs t
/-- the values of the ends -/
def syn (a : Int) : List Int → List Int
  | [] => []
  | c :: cs => pev (c :: cs) a :: syn a cs
theorem syn_len (a : Int) : ∀ cs : List Int, (syn a cs).length = cs.length
  | [] => rfl
  | c :: cs => by
    show (syn a cs).length + 1 = cs.length + 1
    rw [syn_len a cs]
theorem syn_div (a t : Int) : ∀ (c : Int) (cs : List Int), pev (c :: cs) t - pev (c :: cs) a = (t - a) * pev (syn a cs) t
  | c, [] => by
    show c + t * 0 - (c + a * 0) = (t - a) * 0
    omega
  | c, d :: ds => by
    have ih := syn_div a t d ds
    show c + t * pev (d :: ds) t - (c + a * pev (d :: ds) a) = (t - a) * (pev (d :: ds) a + t * pev (syn a ds) t)
    have e : t * ((t - a) * pev (syn a ds) t) = t * (pev (d :: ds) t - pev (d :: ds) a) := by rw [ih]
    grind
/-- all numbers of the list are 0 but for multiples of p -/
def Zer (p : Int) (cs : List Int) : Prop := ∀ c ∈ cs, Cg p c 0
theorem Zer.pev {p : Int} {cs : List Int} (h : Zer p cs) (t : Int) : Cg p (pev cs t) 0 := by
  induction cs with
  | nil => exact .refl
  | cons c cs ih =>
    have h1 := (h c List.mem_cons_self).add ((Cg.refl (a := t)).mul (ih fun x hx => h x (List.mem_cons_of_mem _ hx)))
    rw [Int.mul_zero] at h1
    exact h1
theorem Zer.of_syn {p a : Int} : ∀ {cs : List Int}, Zer p (syn a cs) → Zer p cs
  | [], _ => fun _ h => nomatch h
  | c :: cs, h => by
    have ih := Zer.of_syn (cs := cs) fun x hx => h x (List.mem_cons_of_mem _ hx)
    intro x hx
    rcases List.mem_cons.mp hx with rfl | hx
    · have h1 : Cg p (x + a * Dl.pev cs a) 0 := h _ List.mem_cons_self
      have h2 := (Cg.refl (a := a)).mul (ih.pev a)
      rw [Int.mul_zero] at h2
      have h3 := h1.sub h2
      rw [show x + a * Dl.pev cs a - a * Dl.pev cs a = x by omega] at h3
      exact h3
    · exact ih x hx
/-- as many roots as coefficients: nothing is left -/
theorem roots_zero {p : Int} (P : Prim p) : ∀ (xs cs : List Int), xs.Pairwise (fun x y => ¬ Cg p (x - y) 0) → cs.length ≤ xs.length → (∀ x ∈ xs, Cg p (pev cs x) 0) → Zer p cs
  | _, [], _, _, _ => fun _ h => nomatch h
  | [], c :: cs, _, h, _ => by simp at h
  | x :: xs, c :: cs, hd, hl, hr => by
    rw [List.pairwise_cons] at hd
    have hx := hr x List.mem_cons_self
    have hs : Zer p (syn x cs) := roots_zero P xs (syn x cs) hd.2 (by rw [syn_len]; simpa using hl) fun y hy => by
      have h1 := (hr y (List.mem_cons_of_mem _ hy)).sub hx
      rw [syn_div] at h1
      rcases P.mul_zero h1 with z | z
      · have z2 := z.neg
        rw [show -(y - x) = x - y by omega] at z2
        exact absurd z2 (hd.1 y hy)
      · exact z
    have hz := Zer.of_syn hs
    intro y hy
    rcases List.mem_cons.mp hy with rfl | hy
    · have h2 := (Cg.refl (a := x)).mul (hz.pev x)
      rw [Int.mul_zero] at h2
      have h1 : Cg p (y + x * pev cs x) 0 := hx
      have h3 := h1.sub h2
      rw [show y + x * pev cs x - x * pev cs x = y by omega] at h3
      exact h3
    · exact hz y hy
def padd : List Int → List Int → List Int
  | [], ds => ds
  | cs, [] => cs
  | c :: cs, d :: ds => (c + d) :: padd cs ds
theorem padd_pev (t : Int) : ∀ cs ds : List Int, pev (padd cs ds) t = pev cs t + pev ds t
  | [], ds => by
    show pev ds t = 0 + pev ds t
    omega
  | c :: cs, [] => by
    show pev (c :: cs) t = pev (c :: cs) t + 0
    omega
  | c :: cs, d :: ds => by
    show c + d + t * pev (padd cs ds) t = c + t * pev cs t + (d + t * pev ds t)
    rw [padd_pev t cs ds, Int.mul_add]; omega
theorem padd_len : ∀ cs ds : List Int, (padd cs ds).length = max cs.length ds.length
  | [], ds => by simp [padd]
  | c :: cs, [] => by simp [padd]
  | c :: cs, d :: ds => by
    show (padd cs ds).length + 1 = max (cs.length + 1) (ds.length + 1)
    rw [padd_len cs ds]; omega
theorem pmul_pev (a t : Int) : ∀ cs : List Int, pev (cs.map fun c => a * c) t = a * pev cs t
  | [] => by show (0 : Int) = a * 0; omega
  | c :: cs => by
    show a * c + t * pev (cs.map fun c => a * c) t = a * (c + t * pev cs t)
    rw [pmul_pev a t cs, Int.mul_add, ← Int.mul_assoc, ← Int.mul_assoc, Int.mul_comm t a]
/-- f is a polynomial of degree at most n, but for multiples of p -/
def Pol (p : Int) (n : Nat) (f : Int → Int) : Prop := ∃ cs : List Int, cs.length ≤ n + 1 ∧ ∀ t, Cg p (f t) (pev cs t)
section
variable {p : Int} {n m : Nat} {f g : Int → Int}
theorem Pol.const (c : Int) : Pol p n (fun _ => c) := ⟨[c], by simp, fun t => .of_eq (by show c = c + t * 0; omega)⟩
theorem Pol.mono (h : Pol p n f) (l : n ≤ m) : Pol p m f := by
  obtain ⟨cs, h1, h2⟩ := h
  exact ⟨cs, by omega, h2⟩
theorem Pol.congr (h : Pol p n f) (e : ∀ t, Cg p (g t) (f t)) : Pol p n g := by
  obtain ⟨cs, h1, h2⟩ := h
  exact ⟨cs, h1, fun t => (e t).trans (h2 t)⟩
theorem Pol.add (h : Pol p n f) (k : Pol p n g) : Pol p n fun t => f t + g t := by
  obtain ⟨cs, h1, h2⟩ := h
  obtain ⟨ds, k1, k2⟩ := k
  exact ⟨padd cs ds, by rw [padd_len]; omega, fun t => by rw [padd_pev]; exact (h2 t).add (k2 t)⟩
theorem Pol.smul (a : Int) (h : Pol p n f) : Pol p n fun t => a * f t := by
  obtain ⟨cs, h1, h2⟩ := h
  exact ⟨cs.map fun c => a * c, by rw [List.length_map]; exact h1, fun t => by rw [pmul_pev]; exact Cg.mul .refl (h2 t)⟩
theorem Pol.sub (h : Pol p n f) (k : Pol p n g) : Pol p n fun t => f t - g t :=
  (h.add (k.smul (-1))).congr fun t => .of_eq (by omega)
theorem Pol.tmul (h : Pol p n f) : Pol p (n + 1) fun t => t * f t := by
  obtain ⟨cs, h1, h2⟩ := h
  exact ⟨0 :: cs, by simpa using h1, fun t => (Cg.mul .refl (h2 t)).trans (.of_eq (by show t * pev cs t = 0 + t * pev cs t; omega))⟩
theorem Pol.lin (a b : Int) (h : Pol p n f) : Pol p (n + 1) fun t => (a + b * t) * f t :=
  ((h.smul a).mono (Nat.le_succ n) |>.add (h.tmul.smul b)).congr fun t => .of_eq (by rw [Int.add_mul, Int.mul_assoc])
theorem Pol.sum {F : Nat → Int → Int} : ∀ k : Nat, (∀ i < k, Pol p n (F i)) → Pol p n fun t => S k fun i => F i t
  | 0, _ => .const 0
  | k + 1, h => (Pol.sum k fun i hi => h i (by omega)).add (h k (by omega))
theorem Pol.pev (cs : List Int) (h : cs.length ≤ n + 1) : Pol p n (Dl.pev cs) := ⟨cs, h, fun _ => .refl⟩
/-- equal at n + 1 places: equal everywhere -/
theorem Pol.ext (P : Prim p) (h : Pol p n f) (k : Pol p n g) (xs : List Int) (hd : xs.Pairwise (fun x y => ¬ Cg p (x - y) 0)) (hl : n + 1 ≤ xs.length) (e : ∀ x ∈ xs, Cg p (f x) (g x)) (t : Int) : Cg p (f t) (g t) := by
  obtain ⟨cs, h1, h2⟩ := h.sub k
  have z := roots_zero P xs cs hd (by omega) fun x hx => by
    have := (e x hx).sub (Cg.refl (a := g x))
    rw [Int.sub_self] at this
    exact (h2 x).symm.trans this
  have w := ((h2 t).trans (z.pev t)).add (Cg.refl (a := g t))
  rw [show f t - g t + g t = f t by omega, Int.zero_add] at w
  exact w
end
/-- 0, 1, …, n - 1, told apart by p -/
theorem nodes {p : Int} {n : Nat} (h : (n : Int) ≤ p) : ((List.range n).map fun i : Nat => (i : Int)).Pairwise (fun x y => ¬ Cg p (x - y) 0) := by
  rw [List.pairwise_map]
  refine List.Pairwise.imp_of_mem (R := fun a b => a < b) ?_ (List.pairwise_lt_range)
  intro a b ha hb hab
  have ha := List.mem_range.mp ha
  have hb := List.mem_range.mp hb
  exact near_ne (by omega) (by omega) (by omega)
theorem Pol.extN {p : Int} {n : Nat} {f g : Int → Int} (P : Prim p) (hn : ((n + 1 : Nat) : Int) ≤ p) (h : Pol p n f) (k : Pol p n g) (e : ∀ i : Nat, i ≤ n → Cg p (f i) (g i)) (t : Int) : Cg p (f t) (g t) :=
  h.ext P k _ (nodes hn) (by simp) (fun x hx => by
    obtain ⟨i, hi, rfl⟩ := List.mem_map.mp hx
    exact e i (by have := List.mem_range.mp hi; omega)) t
/-! ### Lagrange -/
/-- the product of t - j over all j < n but k -/
def above (k : Nat) (t : Int) : Nat → Int
  | 0 => 1
  | j + 1 => if j = k then above k t j else above k t j * (t - (j : Nat))
theorem above_pol {p : Int} (k : Nat) : ∀ n : Nat, Pol p n (fun t => above k t n) ∧ (k < n → Pol p (n - 1) (fun t => above k t n))
  | 0 => ⟨.const 1, fun h => absurd h (Nat.not_lt_zero _)⟩
  | n + 1 => by
    obtain ⟨h1, h2⟩ := above_pol (p := p) k n
    by_cases hk : n = k
    · have e : ∀ t, above k t (n + 1) = above k t n := fun t => if_pos hk
      refine ⟨(h1.mono (Nat.le_succ n)).congr fun t => .of_eq (e t), fun _ => h1.congr fun t => .of_eq (e t)⟩
    · have e : ∀ t, above k t (n + 1) = above k t n * (t - (n : Nat)) := fun t => if_neg hk
      refine ⟨(h1.lin (-(n : Nat)) 1).congr fun t => .of_eq (by rw [e, Int.mul_comm]; congr 1; omega), fun hkn => ?_⟩
      have h3 := (h2 (by omega)).lin (-(n : Nat)) 1
      rw [show n - 1 + 1 = n + 1 - 1 by omega] at h3
      exact h3.congr fun t => .of_eq (by rw [e, Int.mul_comm]; congr 1; omega)
theorem above_zero {k i : Nat} (hik : i ≠ k) : ∀ n : Nat, i < n → above k (i : Nat) n = 0
  | n + 1, h => by
    unfold above
    by_cases hk : n = k
    · rw [if_pos hk]
      exact above_zero hik n (by omega)
    · rw [if_neg hk]
      by_cases hi : i = n
      · rw [hi, Int.sub_self, Int.mul_zero]
      · rw [above_zero hik n (by omega), Int.zero_mul]
theorem above_ne {p : Int} (P : Prim p) {k : Nat} : ∀ n : Nat, ((n : Nat) : Int) ≤ p → (k : Int) < p → ¬ Cg p (above k (k : Nat) n) 0
  | 0, _, _ => P.one_ne
  | n + 1, h, hk => by
    unfold above
    by_cases e : n = k
    · rw [if_pos e]
      exact above_ne P n (by omega) hk
    · rw [if_neg e]
      intro z
      rcases P.mul_zero z with z | z
      · exact above_ne P n (by omega) hk z
      · exact near_ne (by omega) (by omega) (by omega) z
/-- the polynomial through the values at 0, …, n -/
theorem lagrange {p : Int} (P : Prim p) {n : Nat} (hn : ((n + 1 : Nat) : Int) ≤ p) {f : Int → Int} (h : Pol p n f) (I : Nat → Int) (hI : ∀ k ≤ n, Cg p (above k (k : Nat) (n + 1) * I k) 1) (t : Int) :
    Cg p (S (n + 1) fun k => f (k : Nat) * (above k t (n + 1) * I k)) (f t) := by
  have hg : Pol p n fun t => S (n + 1) fun k => f (k : Nat) * (above k t (n + 1) * I k) := Pol.sum (n + 1) fun k hk =>
    (((above_pol (p := p) k (n + 1)).2 hk).smul (f (k : Nat) * I k)).congr fun t => .of_eq (by rw [Int.mul_assoc, Int.mul_comm (I k)])
  refine Pol.extN P hn hg h (fun i hi => ?_) t
  have key : ∀ m : Nat, m ≤ n + 1 → Cg p (S m fun k => f (k : Nat) * (above k (i : Nat) (n + 1) * I k)) (if i < m then f (i : Nat) else 0) := by
    intro m
    induction m with
    | zero => intro _; exact .refl
    | succ m ih =>
      intro hm
      have ih := ih (by omega)
      show Cg p (S m _ + f (m : Nat) * (above m (i : Nat) (n + 1) * I m)) _
      by_cases e : i = m
      · subst e
        rw [if_neg (by omega)] at ih
        rw [if_pos (by omega)]
        have := ih.add ((Cg.refl (a := f (i : Nat))).mul (hI i (by omega)))
        rw [Int.zero_add, Int.mul_one] at this
        exact this
      · rw [above_zero e (n + 1) (by omega), Int.zero_mul, Int.mul_zero, Int.add_zero]
        by_cases hl : i < m
        · rw [if_pos hl] at ih
          rw [if_pos (by omega)]
          exact ih
        · rw [if_neg hl] at ih
          rw [if_neg (by omega)]
          exact ih
  have := key (n + 1) (Nat.le_refl _)
  rw [if_pos (by omega)] at this
  exact this
/-! ### more of reading -/
open PySem L2 in
/-- a comprehension with a condition: c tells which are taken, f what is laid -/
theorem lcW_fil {α β : Type} {inj : α → D} {out : β → D} {g : DG} {tt : DT} {te : DE} {ρ : Dl.Env} {Φ : D → MM → Prop} (f : α → β) (c : α → Bool) (m : MM) (xs : List α)
    (hg : ∀ x ∈ xs, ∀ (m' : MM) (Θ : D → MM → Prop) (Υ : Prop), m'.s = m.s → (c x = true → Θ (out (f x)) m') → (c x = false → Υ) → g (inj x) ρ m' (fun ρ1 m1 => m1 = m' ∧ tt ρ1 m' (fun b m2 => m2 = m' ∧ if b = true then te ρ1 m' Θ XF else Υ) XF)) (hc : ∀ y, clD m.M.length (out y) = true) (hl : xs.length ≤ LIM) (h : Φ (.lst (((xs.filter c).map f).map out)) m) :
    lcW g tt te ρ Φ (xs.map inj) [] m := by
  have key : ∀ (ys : List α), (∀ x ∈ ys, x ∈ xs) → ∀ (acc : List D), acc.length + ys.length ≤ LIM → Φ (.lst (acc ++ ((ys.filter c).map f).map out)) m → lcW g tt te ρ Φ (ys.map inj) acc m := by
    intro ys
    induction ys with
    | nil =>
      intro _ acc _ h
      rw [List.filter_nil, List.map_nil, List.map_nil, List.append_nil] at h
      exact h
    | cons x ys ih =>
      intro hx acc hl h
      rw [List.length_cons] at hl
      refine hg x (hx x List.mem_cons_self) (m.push (.lst acc)) (fun y m3 => m3 = m.push (.lst acc) ∧ acc.length < LIM ∧ clD m.M.length y = true ∧ lcW g tt te ρ Φ (ys.map inj) (acc ++ [y]) m) _ rfl (fun e => ?_) fun e => ?_
      · rw [List.filter_cons, if_pos e, List.map_cons, List.map_cons] at h
        exact ⟨rfl, by omega, hc _, ih (fun y hy => hx y (List.mem_cons_of_mem _ hy)) _ (by rw [List.length_append, List.length_singleton]; omega) (by rw [List.append_assoc]; exact h)⟩
      · rw [List.filter_cons, if_neg (by rw [e]; decide)] at h
        exact ih (fun y hy => hx y (List.mem_cons_of_mem _ hy)) _ (by omega) h
  exact key xs (fun x h => h) [] (by rw [List.length_nil]; omega) (by rw [List.nil_append]; exact h)
theorem sum_S {f : Nat → Int} : ∀ n : Nat, ((List.range n).map f).sum = S n f
  | 0 => rfl
  | n + 1 => by
    rw [List.range_succ, List.map_append, List.sum_append, sum_S n]
    show _ + (f n + 0) = _ + f n
    omega
theorem All2.all {α : Type} {P : Int → Prop} {xs : List α} {ys : List Int} (h : All2 (fun _ y => P y) xs ys) : ∀ y ∈ ys, P y := by
  induction h with
  | nil => intro y hy; cases hy
  | cons h _ ih =>
    intro y hy
    rcases List.mem_cons.mp hy with rfl | hy
    · exact h
    · exact ih y hy
end Dl

namespace Dl
open PySem L2
/-! ### a list over and over -/
end Dl

namespace Dl
open PySem L2
/-! ### the drawing state of the other kind: a row of numbers, the first a place in it -/
section
variable {K : PySem.W.Frag} {w : Wd} {m : MM} {H : Hp} {A c : Addr}
end
section
variable {P : Program} {w : World} {K : PySem.W.Frag} {mg : Str → Option Value} {base : Heap} {x : Str} {lv : Nat} {ps : List Str}
end
local macro_rules | `(tactic| walk_at "dl") => `(tactic| try simp only [dSeq, dSet, dOp, dUn, dVar, dC, dCB, dCons, dNil, dRet, dRetN, dIf, dB, dAnd, dOr, dNot, dDrop, dNext, dMethL, dSetIx, dAndV, dOrV, dNotV, dBlV, dIfE, dLst, dTup, dLstM, dCall, dChain, dAsg, dgName, dgTup, bindD, asT, dFor, diList, diRng1, diRng2, diEnumerate, diZip, diReversed, dLc, dLcM, dYes, wipeD, dAug, dSl, dpN, dpS,
  oI, oI0, oB0, oAdd, oNeg, oEq, oNe, oIx, oIsN, oNotN, isNon, oShl, oApp, oPop, oPopAt, cLen, cInt, cAbs, cSum, cMax2, cMin2, cList, cIsi, tyD, asL, asF, asK, moL_lst, ModC, DivC,
  List.getElem?_cons_zero, List.getElem?_cons_succ, List.set_cons_zero, List.set_cons_succ, List.getElem?_nil, List.length_cons, List.length_nil, List.length_map, Option.map_some, Option.bind_some, Option.isSome_some, if_true, true_and, and_true, MM.push])
end Dl

namespace Dl
open PySem L2
/-! ### an own list that will not change any more -/
/-- from here on slot i's list is like a written one -/
def dFrz (i : Nat) (a : DS) : DS := fun N Ψ ρ m => match ρ[i]? with
  | some (some (.hnd k)) => match moL m.M[k]? with
    | some ds => a N Ψ (ρ.set i (some (.lst ds))) ⟨m.M.set k .dead, m.s⟩
    | none => False
  | _ => False
theorem moL_some {o : Option MO} {ds : List D} (h : moL o = some ds) : o = some (.lst ds) := by
  cases o with
  | none => cases h
  | some o =>
    cases o with
    | lst es =>
      have h : some es = some ds := h
      cases h; rfl
    | ins C fs => cases h
    | dead => cases h
theorem js_frz {X : Cx} {E : WX} {st : Stmt} {W : DS} (i : Nat) (h : JS X E st W) : JS X E st (dFrz i W) := PS.imp h fun D σ H ⟨w, ρ, m, Ψ, N, a, n, q⟩ => by
  unfold dFrz at q
  split at q
  · rename_i k e
    split at q
    · rename_i ds em
      obtain ⟨v, e1, A, rfl, eA⟩ := a.s.2 i _ e
      obtain ⟨xs, fa, hx, rr, hf⟩ := a.h.frz eA (moL_some em)
      have l : w.le (w.put A (.lst xs)) := Wd.le_put fa
      have sl : Slots X.K (w.put A (.lst xs)) (σ.set i (some (.ref A))) (ρ.set i (some (.lst ds))) := (a.s.mono l).set i ⟨A, xs, rfl, upd_same, RepAll.mono l _ _ rr⟩
      have es : σ.set i (some (.ref A)) = σ := by
        apply List.ext_getElem?
        intro j
        by_cases hj : i = j
        · subst hj
          rw [List.getElem?_set_self (List.getElem?_eq_some_iff.mp e1).1, e1]
        · rw [List.getElem?_set_ne hj]
      rw [es] at sl
      exact ⟨_, _, _, Ψ, N, ⟨hf, sl, a.x.mono l⟩, n.mono l, q⟩
    · exact q.elim
  · exact q.elim
end Dl

namespace Dl
open PySem L2 PyProof.Rows
/-! ### errors of own classes: made and raised -/
section
variable {X : Cx} {B : Addr} {x : Str} {o e : Expr} {es : List Expr} {ta : TA} {p1 p2 pos : Pos}
end
section
variable {P : Program} {w : World} {K : PySem.W.Frag} {mg : Str → Option Value} {base : Heap}
end
/-- raise C(e, ..): what follows is the wish of the error -/
def dRaise (c : String) (fs : List String) (r : DA) : DS := fun _ Ψ ρ m => r ρ m (fun ds m1 => ds.length = fs.length ∧ Ψ ρ c (fs.zip ds).reverse m1) (Ψ ρ)
theorem RepF.append {K : PySem.W.Frag} {w : Wd} : ∀ {ds es : List (String × D)} {vs us : List (Str × V)}, RepF K w ds vs → RepF K w es us → RepF K w (ds ++ es) (vs ++ us)
  | [], _, _, _, h, g => by
    have q : _ = [] := h
    subst q; exact g
  | (f, d) :: ds, _, _, _, h, g => by
    obtain ⟨v, r, rfl, a, b⟩ := h
    exact ⟨v, _, rfl, a, RepF.append b g⟩
theorem RepF.reverse {K : PySem.W.Frag} {w : Wd} {ds : List (String × D)} {vs : List (Str × V)} (h : RepF K w ds vs) : RepF K w ds.reverse vs.reverse := by
  induction ds generalizing vs with
  | nil =>
    have q : vs = [] := h
    subst q; exact rfl
  | cons d ds ih =>
    obtain ⟨f, d⟩ := d
    obtain ⟨v, r, rfl, a, b⟩ := h
    rw [List.reverse_cons, List.reverse_cons]
    exact RepF.append (ih b) ⟨v, [], rfl, a, rfl⟩
section
variable {X : Cx} {E : WX} {c : String} {fs : List String} {e : Expr} {es : List Expr} {Ws : DA} {p cpos pos : Pos}
end

/-! ### try .. except B as n -/
/-- L tells of each class whether the clause takes it -/
def dTryAs (i : Nat) (L : List (String × Bool)) (body : DS) (su : Addr → Addr → String → DS) : DS := fun N Ψ ρ m =>
  body N (fun ρ' c fs m' => match L.lookup c with
    | some true => ∀ a d, su a d c { nx := fun ρ2 m2 => N.nx (ρ2.set i none) m2, rt := N.rt, bk := fun ρ2 m2 => N.bk (ρ2.set i none) m2, ct := fun ρ2 m2 => N.ct (ρ2.set i none) m2 } (fun _ => XF) (ρ'.set i (some (.exc a d c fs))) m'
    | some false => Ψ ρ' c fs m'
    | none => False) ρ m
section
variable {X : Cx} {E : WX} {B : String} {L : List (String × Bool)} {n : Str} {body suite : List Stmt} {b₀ : Stmt} {np pos pos' : Pos} {t : DS} {su : Addr → Addr → String → DS}
end
/-! in the suite -/
/-- e.f -/
def dXf (a d : Addr) (f : String) (o : DE) : DE := fun ρ m Φ Ψ => o ρ m (fun x m1 => match x with
  | .exc a' d' _ fs => a' = a ∧ d' = d ∧ ∃ v, fs.lookup f = some v ∧ Φ v m1
  | _ => False) Ψ
section
variable {X : Cx} {a d : Addr} {oe : Obj} {c : String} {pn : List (Addr × Obj)} {o : Expr} {W : DE} {f : String} {pos : Pos}
/-- isinstance(e, B) of the caught error -/
def dIsE (a d : Addr) (L : List (String × Bool)) (B : String) (c : String) (o : DE) : DE := fun ρ m Φ Ψ => o ρ m (fun x m1 => match x with
  | .exc a' d' _ _ => a' = a ∧ d' = d ∧ ∃ b, L.lookup c = some b ∧ Φ (.bl b) m1
  | _ => False) Ψ
end

/-! ### what the top must say of the classes -/
theorem dRaise_one {c f : String} {a : DE} {N : DN} {Ψ : XS} {ρ : Dl.Env} {m : MM} : dRaise c [f] (dCons a dNil) N Ψ ρ m = a ρ m (fun x m1 => Ψ ρ c [(f, x)] m1) (Ψ ρ) := by
  simp [dRaise, dCons, dNil]
theorem dRaise_two {c f g : String} {a b : DE} {N : DN} {Ψ : XS} {ρ : Dl.Env} {m : MM} : dRaise c [f, g] (dCons a (dCons b dNil)) N Ψ ρ m = a ρ m (fun x m1 => b ρ m1 (fun y m2 => Ψ ρ c [(g, y), (f, x)] m2) (Ψ ρ)) (Ψ ρ) := by
  simp [dRaise, dCons, dNil]
theorem okE_int {n : Nat} {i : Int} : okE n (.int i) = true := rfl
theorem okE_bl {n : Nat} {b : Bool} : okE n (.bl b) = true := rfl
theorem okE_non {n : Nat} : okE n .non = true := rfl
end Dl

namespace Dl
open PySem L2 PyProof.Rows
/-! ### max, min of a list -/
def cMaxL : DCB := fun ds m Φ => match ds with
  | [d] => match asL m d with
    | some xs => ∃ ns, intsD xs = some ns ∧ 0 < ns.length ∧ ∀ k, k ∈ ns → (∀ y, y ∈ ns → y ≤ k) → Φ (.int k) m
    | none => False
  | _ => False
def cMinL : DCB := fun ds m Φ => match ds with
  | [d] => match asL m d with
    | some xs => ∃ ns, intsD xs = some ns ∧ 0 < ns.length ∧ ∀ k, k ∈ ns → (∀ y, y ∈ ns → k ≤ y) → Φ (.int k) m
    | none => False
  | _ => False
/-! ### shifts -/
def oShr : DO := oI (fun _ j => 0 ≤ j) fun i j => i / 2 ^ j.toNat
/-! ### xs.extend(ys) -/
def oExt : D → List D → MM → (D → MM → Prop) → Prop := fun x ds m Φ => match x, ds with
  | .hnd k, [y] => match moL m.M[k]?, asK m y with
    | some xs, some ys => xs.length + ys.length ≤ LIM ∧ Φ .non ⟨m.M.set k (.lst (xs ++ ys)), m.s⟩
    | _, _ => False
  | _, _ => False
/-! ### in, not in -/
def memD (x : D) (ys : List D) : Bool := ys.any fun y => eqD y x
def oInL (neg : Bool) : DO := fun x y m Φ => match y with
  | .lst ys => okE 64 x = true ∧ okE 64 (.lst ys) = true ∧ Φ (.bl (if neg then !memD x ys else memD x ys)) m
  | .rol ys => okE 64 x = true ∧ okE 64 (.rol ys) = true ∧ Φ (.bl (if neg then !memD x ys else memD x ys)) m
  | _ => False
/-! ### is True, is False -/
def oIsB : DO := fun x y m Φ => match x, y with
  | .bl a, .bl b => Φ (.bl (decide (a = b))) m
  | _, _ => False
def oNotB : DO := fun x y m Φ => match x, y with
  | .bl a, .bl b => Φ (.bl (!decide (a = b))) m
  | _, _ => False
theorem opl_notB {K : PySem.W.Frag} : OpL K rNotB oNotB := fun w m H x y u v Q Φ h r1 r2 vl q => by
  unfold oNotB at q
  split at q
  · exact ⟨_, _, r1, r2, vl.bl h q⟩
  · exact q.elim
/-! ### any -/
def blsD : List D → Option (List Bool)
  | [] => some []
  | .bl b :: r => (blsD r).map (b :: ·)
  | _ => none
def cAny : DCB := fun ds m Φ => match ds with
  | [d] => match asL m d with
    | some xs => ∃ bs, blsD xs = some bs ∧ Φ (.bl (bs.any id)) m
    | none => False
  | _ => False
/-! ### xs[::-1] -/
def dRevL (a : DE) : DE := fun ρ m Φ Ψ => a ρ m (fun d m1 => match asL m1 d with
  | some ds => Φ (.lst ds.reverse) m1
  | none => False) Ψ
section
variable {X : Cx} {E : WX} {a : Expr} {Wa : DE} {pos : Pos}
theorem je_revL {k p1 p2 p3} (ha : JE X E a Wa) : JE X E (.Subscript a (.Slice none none (some (.UnaryOp .USub (.Constant (.int 1) k p1) p2)) p3) pos) (dRevL Wa) := PE.imp (pe_revL ha) fun σ H Q ⟨w, ρ, m, Ψ, Φ, a, vl, h⟩ => by
  refine ⟨w, ρ, m, Ψ, _, a, fun d m1 w1 H1 v l1 h1 r1 q1 => ?_, h⟩
  split at q1
  · rename_i ds e
    obtain ⟨a, us, rfl, ha, ra⟩ := asL_ok h1 e r1
    exact ⟨a, us, rfl, ha, fun p hp => (vl.mono l1).newL h1 hp ra.reverse q1⟩
  · exact q1.elim
end
/-! ### a comprehension over two walks -/
section
variable {X : Cx} {E : WX}
end
end Dl

namespace Dl
open PySem L2 PyProof.Rows
/-! ### objects of own classes -/
def moI : Option MO → Option (String × List (String × D))
  | some (.ins c fs) => some (c, fs)
  | _ => none
theorem moI_ins {c : String} {fs : List (String × D)} : moI (some (.ins c fs)) = some (c, fs) := rfl
/-- o.f -/
def dFld (cs : List String) (f : String) (o : DE) : DE := fun ρ m Φ Ψ => o ρ m (fun x m1 => match x with
  | .hnd k => match moI m1.M[k]? with
    | some (c, fs) => cs.contains c = true ∧ ∃ v, fs.lookup f = some v ∧ Φ v m1
    | none => False
  | _ => False) Ψ
section
variable {X : Cx} {E : WX} {o e : Expr} {Wo We : DE} {f : String} {cs : List String} {pos p' tpos : Pos}
/-- o.f = e -/
def dSetF (cs : List String) (f : String) (e o : DE) : DS := fun N Ψ ρ m => e ρ m (fun v m1 => o ρ m1 (fun x m2 => match x with
  | .hnd k => match moI m2.M[k]? with
    | some (c, fs) => cs.contains c = true ∧ fs.length < 1000 ∧ N.nx ρ ⟨m2.M.set k (.ins c (putD f v fs)), m2.s⟩
    | none => False
  | _ => False) (Ψ ρ)) (Ψ ρ)
/-- o.f += e, of ints -/
def dAugF (cs : List String) (f : String) (g : Int → Int → Int) (e o : DE) : DS := fun N Ψ ρ m => o ρ m (fun x m1 => match x with
  | .hnd k => match moI m1.M[k]? with
    | some (c, fs) => cs.contains c = true ∧ ∃ i, fs.lookup f = some (.int i) ∧ e ρ m1 (fun y m2 => match y, moI m2.M[k]? with
      | .int j, some (c', fs') => c' = c ∧ fs'.length < 1000 ∧ N.nx ρ ⟨m2.M.set k (.ins c (putD f (.int (g i j)) fs')), m2.s⟩
      | _, _ => False) (Ψ ρ)
    | none => False
  | _ => False) (Ψ ρ)
end
/-! ### methods -/
/-- a method of the class c keeps its worth -/
def OkM (P : Program) (w : World) (K : PySem.W.Frag) (base : Heap) (mg : Str → Option Value) (c : String) (mn : String) (lv : Nat) (ps : List Str) (C : DC) : Prop :=
  ∃ f fd, Cls K (kcl K c) ∧ Meth K (kcl K c) (PySem.Str.ofString mn) f ∧ BA fd ps ∧ FnOk P w K mg base (L2.CX P w) lv f fd ps (spOf K ps.length C)
section
variable {P : Program} {w : World} {K : PySem.W.Frag} {base : Heap} {mg : Str → Option Value} {mn : String} {lv n : Nat}
theorem OkM.mono {c : String} {lv' : Nat} {ps : List Str} {C : DC} (h : OkM P w K base mg c mn lv ps C) (l : lv ≤ lv') : OkM P w K base mg c mn lv' ps C := by
  obtain ⟨f, fd, a, b, c, d⟩ := h
  exact ⟨f, fd, a, b, c, d.mono l⟩
end
section
variable {X : Cx} {E : WX} {o e : Expr} {es : List Expr} {ta : TE} {t : TA} {mn : Str} {apos pos : Pos}
end
/-- o.m(..): tab tells each class's worth -/
def dMeth (tab : List (String × DC)) (mn : String) (n : Nat) (o : DE) (r : DA) : DE := fun ρ m Φ Ψ => o ρ m (fun x m1 => match x with
  | .hnd k => match moI m1.M[k]? with
    | some (c, fs) => match tab.lookup c with
      | some C => fs.lookup mn = none ∧ r ρ m1 (fun ds m2 => ds.length = n ∧ C (.hnd k :: ds) m2 Φ Ψ) Ψ
      | none => False
    | none => False
  | _ => False) Ψ
section
variable {X : Cx} {E : WX} {o e : Expr} {es : List Expr} {Wo : DE} {Ws : DA} {mn : String} {apos pos : Pos} {tab : List (String × DC)} {lv n : Nat}
end
/-! ### C(..) -/
def dMake (n : Nat) (c : String) (C : DC) (r : DA) : DE := fun ρ m Φ Ψ => r ρ m (fun ds m1 => ds.length = n ∧ C (.hnd m1.M.length :: ds) (m1.push (.ins c [])) (fun d m2 => d = .non ∧ Φ (.hnd m1.M.length) m2) Ψ) Ψ
section
variable {X : Cx} {E : WX} {e : Expr} {es : List Expr} {Ws : DA} {c : String} {p pos : Pos} {lv : Nat} {ps : List Str} {C : DC}
end
/-! ### a def's own objects let go, others changed -/
def kept (m0 : MM) (M1 : List MO) : Prop := M1.length = m0.M.length ∧ ∀ (i : Nat) o, M1[i]? = some o → m0.M[i]? = some o ∨ clO m0.M.length o = true
theorem kept.rfl {m : MM} : kept m m.M := ⟨_root_.rfl, fun _ _ h => .inl h⟩
theorem kept.set {m : MM} {M1 : List MO} {k : Nat} {o : MO} (h : kept m M1) (c : clO m.M.length o = true) : kept m (M1.set k o) := by
  refine ⟨by rw [List.length_set]; exact h.1, fun i o' e => ?_⟩
  by_cases hi : k = i
  · subst hi
    by_cases hl : k < M1.length
    · rw [List.getElem?_set_self hl] at e
      cases e; exact .inr c
    · rw [List.getElem?_eq_none (by rw [List.length_set]; omega)] at e; cases e
  · rw [List.getElem?_set_ne hi] at e
    exact h.2 i o' e
def retQ (m0 : MM) (Φ : D → MM → Prop) : D → MM → Prop := fun d m' => ∃ M1 L d', m'.M = M1 ++ L ∧ kept m0 M1 ∧ (d' = d ∨ ∃ j ds, d = .hnd (m0.M.length + j) ∧ L[j]? = some (.lst ds) ∧ d' = .lst ds) ∧ clD m0.M.length d' = true ∧ Φ d' ⟨M1, m'.s⟩
def retX (m0 : MM) (Ψ : XP) : XP := fun c fs m' => ∃ M1 L, m'.M = M1 ++ L ∧ kept m0 M1 ∧ clF m0.M.length fs = true ∧ Ψ c fs ⟨M1, m'.s⟩
section
variable {P : Program} {w : World} {K : PySem.W.Frag} {mg : Str → Option Value} {base : Heap}
theorem cut_kept {w0 : Wd} {m : MM} {H0 H' : Hp} {w2 : Wd} {m2 : MM} {M1 L : List MO} (h0 : HRep K w0 m H0) (h2 : HRep K w2 m2 H') (e : m2.M = M1 ++ L) (k : kept m M1) : HRep K (w2.cut m.M.length) ⟨M1, m2.s⟩ H' := by
  have et : m2.M.take m.M.length = M1 := by rw [e, ← k.1, List.take_left' rfl]
  have z := h2.cut (n := m.M.length) fun o ho => by
    rw [et] at ho
    obtain ⟨i, hi, rfl⟩ := List.mem_iff_getElem.mp ho
    rcases k.2 i _ (List.getElem?_eq_getElem hi) with q | q
    · exact h0.cls _ (List.mem_of_getElem? q)
    · exact q
  have em : m2.cut m.M.length = ⟨M1, m2.s⟩ := by
    show (⟨m2.M.take m.M.length, m2.s⟩ : MM) = _
    rw [et]
  rw [em] at z
  exact z
theorem okDQ {x qual : Str} {st : Stmt} {f : Addr} {fd : FuncData} {N ps : List Str} {k : Nat} {C : DC} {W : DS} (F : Fun K x qual st f fd) (S : FnScope N ps (defScope st))
    (hb : ∀ (cdv : Value) (A : Around) (outer : List PySem.Env) (s : Shared) (H : Hp) (E : XK), Room k (A.deeper (envOfC qual (defScope st) s.heap.objs.size f cdv)) → JSs (cxOf (L2.CX P w) P w K mg base N qual (defScope st) f cdv A outer s H E) (wishE E) (defBody st) W)
    (hC : ∀ ds m Φ Ψ, ds.length = ps.length → C ds m Φ Ψ → W { nx := fun _ m' => retQ m Φ .non m', rt := retQ m Φ } (fun _ => retX m Ψ) (ds.map some ++ List.replicate (N.length - ds.length) none) m) :
    FnOk P w K mg base (L2.CX P w) (k + 1) f fd ps (spOf K ps.length C) := by
  refine F.okX S (fun vs H Q E h => h.1) fun cdv A outer s H vs Q E hr h => ⟨_, hb cdv A outer s H E hr, ?_⟩
  obtain ⟨hl, w0, ds, m, Φ, Ψ, h0, r, vl, xl, c⟩ := h
  have hd : ds.length = ps.length := r.length.symm.trans hl
  have hlen : w0.th.length = m.M.length := h0.len
  refine ⟨w0, _, m, fun _ => retX m Ψ, _, ⟨h0, slots_start r, fun ρ σ w1 l1 _ C fs m' w' H' d xs l a b c q => ?_⟩, ?_, hC ds m Φ Ψ hd c⟩
  · obtain ⟨M1, L, e, kp, hcl, q⟩ := q
    exact xl C fs ⟨M1, m'.s⟩ (w'.cut m.M.length) H' d xs (Wd.le_cut (l1.trans l) (Nat.le_of_eq hlen)) (cut_kept h0 a e kp) b (RepF.cut _ _ c hcl) q
  have fin : VLift K w0 Q (retQ m Φ) := fun d m' w' H' v l h' rd ⟨M1, L, d', e, kp, hd', hcl, q⟩ => by
    rcases hd' with rfl | ⟨j, es', rfl, ej, rfl⟩
    · exact vl _ _ _ H' v (Wd.le_cut l (Nat.le_of_eq hlen)) (cut_kept h0 h' e kp) (Rep.cut _ _ rd hcl) q
    · obtain ⟨a, rfl, q2⟩ := rd
      have em : m'.M[m.M.length + j]? = some (.lst es') := by
        rw [e, ← kp.1, List.getElem?_append_right (Nat.le_add_right _ _), Nat.add_sub_cancel_left]; exact ej
      obtain ⟨xs, fa, hx, rr, hf⟩ := h'.frz q2 em
      refine vl (.lst es') ⟨M1, m'.s⟩ ((w'.put a (.lst xs)).cut m.M.length) H' _ (Wd.le_cut (l.trans (Wd.le_put fa)) (Nat.le_of_eq hlen)) (cut_kept (m2 := ⟨m'.M.set (m.M.length + j) .dead, m'.s⟩) (L := L.set j .dead) h0 hf ?_ kp) ?_ q
      · show m'.M.set (m.M.length + j) .dead = _
        rw [e, ← kp.1, List.set_append_right _ _ (Nat.le_add_right _ _), Nat.add_sub_cancel_left]
      · exact ⟨a, xs, rfl, upd_same, RepAll.cut _ _ (RepAll.mono (Wd.le_put fa) _ _ rr) hcl⟩
  exact ⟨fun ρ m' w' H' σ l h' _ q => fin .non m' w' H' _ l h' rfl q, fin, fun _ _ _ _ _ _ _ _ q => q.elim, fun _ _ _ _ _ _ _ _ q => q.elim⟩
end
/-! ### what the top must say of the classes -/
end Dl

namespace Dl
open PySem L2 PyProof.Rows
theorem room65 {k : Nat} {A : Around} (r : Room k A) : A.units + 65 < cLine := by have := room_un r; omega
section
variable {X : Cx} {E : WX}
/-- y = [..], a list that changes later -/
theorem js_setLcM (i : Nat) {y : Str} {py : Pos} {elt tg iter : Expr} {ifs : List Expr} {scope : Scope} {own : List (Str × Nat)} {pos spos : Pos} {wi : DI} {g : DG} {tt : DT} {te : DE} (hc : X.calm = true) (hN : X.N.Nodup) (hy : X.N[i]? = some y) (hyl : X.env.scope.names.lookup y = some .local)
    (hsw : swapsWith (.ListComp elt [⟨tg, iter, ifs, 0⟩] scope pos) (some (.Name y py)) spos.line X.env = pure true) (hi : JI X E tg iter wi) (ok : BlkOk X.N X.env.scope scope own)
    (hg : ∀ (s : Shared) (H : Hp) (C : Addr) (cl : List (Str × Addr)) (fp : List Addr), PG (X.blk s H scope (compEnvC scope cl C X.env) fp) tg (liftG X.K (own.map (·.2)) g))
    (ht : ∀ (s : Shared) (H : Hp) (C : Addr) (cl : List (Str × Addr)) (fp : List Addr), PTs (X.blk s H scope (compEnvC scope cl C X.env) fp) ifs (liftT X.K EF tt))
    (he : ∀ (s : Shared) (H : Hp) (C : Addr) (cl : List (Str × Addr)) (fp : List Addr), JE (X.blk s H scope (compEnvC scope cl C X.env) fp) EF elt te) (hs : ∀ x, foldedSetIterable iter X.env x = pure x := by intro _; rfl) :
    JS X E (.Assign [.Name y py] (.ListComp elt [⟨tg, iter, ifs, 0⟩] scope pos) spos) (dSet i (dLcM wi g tt te (own.map (·.2)))) := PS.imp (ps_setLc hc hN hy hyl hsw hi ok hg ht he hs) fun D σ H ⟨w, ρ, m, Ψ, N, a, n, h⟩ => by
  refine lcM_ok (E := E) ⟨w, ρ, m, Ψ ρ, _, a.at, fun d m1 w1 H1 v l1 h1 r1 q1 => ?_, h⟩
  exact n.nx _ m1 w1 H1 _ l1 h1 ((a.s.mono l1).set i r1) q1
end
/-! ### == where a side may be a list that changes -/
def deref (m : MM) : D → D
  | .hnd k => match moL m.M[k]? with
    | some ds => .lst ds
    | none => .hnd k
  | d => d
def oEqH : DO := fun x y m Φ => okE 64 (deref m x) = true ∧ okE 64 (deref m y) = true ∧ Φ (.bl (eqD (deref m x) (deref m y))) m
def oNeH : DO := fun x y m Φ => okE 64 (deref m x) = true ∧ okE 64 (deref m y) = true ∧ Φ (.bl (!eqD (deref m x) (deref m y))) m
/-- list(x), a list that changes later -/
def cListM : DCB := fun ds m Φ => match ds with
  | [d] => match asL m d with
    | some xs => Φ (.hnd m.M.length) (m.push (.lst xs))
    | none => match asT d with
      | some xs => Φ (.hnd m.M.length) (m.push (.lst xs))
      | none => False
  | _ => False
theorem cbl_listM {K : PySem.W.Frag} : CbL K (fun xs H Q => ∃ p ys, xs = [V.ref p] ∧ (SqL K H p ys ∨ SqT K H p ys) ∧ ∀ l, H l = none → Q (.ref l) (upd H l (.lst ys))) cListM := fun w m H ds vs Q Φ h r vl q => by
  unfold cListM at q
  split at q
  · obtain ⟨v, rfl, rv⟩ := rep1 r
    split at q
    · rename_i e
      obtain ⟨a, us, rfl, ha, ra⟩ := asL_ok h e rv
      exact ⟨a, us, rfl, .inl ha, fun l hl => vl.newM h hl ra q⟩
    · split at q
      · rename_i e
        obtain ⟨a, us, rfl, ha, ra⟩ := asT_ok h e rv
        exact ⟨a, us, rfl, .inr ha, fun l hl => vl.newM h hl ra q⟩
      · exact q.elim
  · exact q.elim
def cAll : DCB := fun ds m Φ => match ds with
  | [d] => match asL m d with
    | some xs => ∃ bs, blsD xs = some bs ∧ Φ (.bl (bs.all id)) m
    | none => False
  | _ => False
def cTuple : DCB := fun ds m Φ => match ds with
  | [d] => match asL m d with
    | some xs => Φ (.tup xs) m
    | none => match asT d with
      | some _ => Φ d m
      | none => False
  | _ => False
-- kit_all
theorem kq_NoneType_int : kitB "NoneType" "int" = some false := by decide +kernel
theorem kq_NoneType_bool : kitB "NoneType" "bool" = some false := by decide +kernel
theorem kq_NoneType_list : kitB "NoneType" "list" = some false := by decide +kernel
theorem kq_NoneType_tuple : kitB "NoneType" "tuple" = some false := by decide +kernel
theorem kq_NoneType_str : kitB "NoneType" "str" = some false := by decide +kernel
theorem kq_bool_int : kitB "bool" "int" = some true := by decide +kernel
theorem kq_bool_bool : kitB "bool" "bool" = some true := by decide +kernel
theorem kq_bool_list : kitB "bool" "list" = some false := by decide +kernel
theorem kq_bool_tuple : kitB "bool" "tuple" = some false := by decide +kernel
theorem kq_bool_str : kitB "bool" "str" = some false := by decide +kernel
theorem kq_int_int : kitB "int" "int" = some true := by decide +kernel
theorem kq_int_bool : kitB "int" "bool" = some false := by decide +kernel
theorem kq_int_list : kitB "int" "list" = some false := by decide +kernel
theorem kq_int_tuple : kitB "int" "tuple" = some false := by decide +kernel
theorem kq_int_str : kitB "int" "str" = some false := by decide +kernel
theorem kq_str_int : kitB "str" "int" = some false := by decide +kernel
theorem kq_str_bool : kitB "str" "bool" = some false := by decide +kernel
theorem kq_str_list : kitB "str" "list" = some false := by decide +kernel
theorem kq_str_tuple : kitB "str" "tuple" = some false := by decide +kernel
theorem kq_str_str : kitB "str" "str" = some true := by decide +kernel
theorem kq_list_int : kitB "list" "int" = some false := by decide +kernel
theorem kq_list_bool : kitB "list" "bool" = some false := by decide +kernel
theorem kq_list_list : kitB "list" "list" = some true := by decide +kernel
theorem kq_list_tuple : kitB "list" "tuple" = some false := by decide +kernel
theorem kq_list_str : kitB "list" "str" = some false := by decide +kernel
theorem kq_tuple_int : kitB "tuple" "int" = some false := by decide +kernel
theorem kq_tuple_bool : kitB "tuple" "bool" = some false := by decide +kernel
theorem kq_tuple_list : kitB "tuple" "list" = some false := by decide +kernel
theorem kq_tuple_tuple : kitB "tuple" "tuple" = some true := by decide +kernel
theorem kq_tuple_str : kitB "tuple" "str" = some false := by decide +kernel
/-! ### plain data -/
mutual
def plD : D → Bool
  | .non => true
  | .bl _ => true
  | .int _ => true
  | .str x => PyData.strOk x
  | .lst ds => plDs ds
  | .tup ds => plDs ds
  | _ => false
def plDs : List D → Bool
  | [] => true
  | d :: ds => plD d && plDs ds
end
theorem plDs_of : ∀ {ds : List D}, (∀ d ∈ ds, plD d = true) → plDs ds = true
  | [], _ => rfl
  | e :: ds, h => by
    show (plD e && plDs ds) = true
    rw [h e List.mem_cons_self, plDs_of fun d hd => h d (List.mem_cons_of_mem _ hd)]; rfl
mutual
theorem okE_mono : ∀ (d : D) {n k : Nat}, okE n d = true → n ≤ k → okE k d = true
  | .non, _, _, _, _ => rfl
  | .bl _, _, _, _, _ => rfl
  | .int _, _, _, _, _ => rfl
  | .str _, _, _, h, _ => h
  | .lst ds, n, k, h, l => by
    have h : (decide (0 < n) && okEs (n - 1) ds) = true := h
    rw [Bool.and_eq_true] at h
    have h0 := of_decide_eq_true h.1
    show (decide (0 < k) && okEs (k - 1) ds) = true
    rw [decide_eq_true (by omega), okEs_mono ds h.2 (by omega)]; rfl
  | .rol ds, n, k, h, l => by
    have h : (decide (0 < n) && okEs (n - 1) ds) = true := h
    rw [Bool.and_eq_true] at h
    have h0 := of_decide_eq_true h.1
    show (decide (0 < k) && okEs (k - 1) ds) = true
    rw [decide_eq_true (by omega), okEs_mono ds h.2 (by omega)]; rfl
  | .tup ds, n, k, h, l => by
    have h : (decide (0 < n) && okEs (n - 1) ds) = true := h
    rw [Bool.and_eq_true] at h
    have h0 := of_decide_eq_true h.1
    show (decide (0 < k) && okEs (k - 1) ds) = true
    rw [decide_eq_true (by omega), okEs_mono ds h.2 (by omega)]; rfl
  | .rot ds, n, k, h, l => by
    have h : (decide (0 < n) && okEs (n - 1) ds) = true := h
    rw [Bool.and_eq_true] at h
    have h0 := of_decide_eq_true h.1
    show (decide (0 < k) && okEs (k - 1) ds) = true
    rw [decide_eq_true (by omega), okEs_mono ds h.2 (by omega)]; rfl
  | .ty _, _, _, h, _ => nomatch h
  | .cls _, _, _, h, _ => nomatch h
  | .hnd _, _, _, h, _ => nomatch h
  | .st _, _, _, h, _ => nomatch h
  | .exc _ _ _ _, _, _, h, _ => nomatch h
theorem okEs_mono : ∀ (ds : List D) {n k : Nat}, okEs n ds = true → n ≤ k → okEs k ds = true
  | [], _, _, _, _ => rfl
  | d :: ds, n, k, h, l => by
    have h : (okE n d && okEs n ds) = true := h
    rw [Bool.and_eq_true] at h
    show (okE k d && okEs k ds) = true
    rw [okE_mono d h.1 l, okEs_mono ds h.2 l]; rfl
end
theorem okEs_of {n : Nat} : ∀ {ds : List D}, (∀ d ∈ ds, okE n d = true) → okEs n ds = true
  | [], _ => rfl
  | e :: ds, h => by
    show (okE n e && okEs n ds) = true
    rw [h e List.mem_cons_self, okEs_of fun d hd => h d (List.mem_cons_of_mem _ hd)]; rfl
theorem okE_lst {n : Nat} {ds : List D} (h : ∀ d ∈ ds, okE n d = true) : okE (n + 1) (.lst ds) = true := by
  show (decide (0 < n + 1) && okEs (n + 1 - 1) ds) = true
  rw [decide_eq_true (by omega), Nat.add_sub_cancel, okEs_of h]; rfl
theorem okE_tup {n : Nat} {ds : List D} (h : ∀ d ∈ ds, okE n d = true) : okE (n + 1) (.tup ds) = true := by
  show (decide (0 < n + 1) && okEs (n + 1 - 1) ds) = true
  rw [decide_eq_true (by omega), Nat.add_sub_cancel, okEs_of h]; rfl
mutual
theorem clD_pl {n : Nat} : ∀ (d : D), plD d = true → clD n d = true
  | .non, _ => rfl
  | .bl _, _ => rfl
  | .int _, _ => rfl
  | .str _, _ => rfl
  | .lst ds, h => clAll_pl ds h
  | .tup ds, h => clAll_pl ds h
theorem clAll_pl {n : Nat} : ∀ (ds : List D), plDs ds = true → clAll n ds = true
  | [], _ => rfl
  | d :: ds, h => by
    have h : (plD d && plDs ds) = true := h
    rw [Bool.and_eq_true] at h
    show (clD n d && clAll n ds) = true
    rw [clD_pl d h.1, clAll_pl ds h.2]; rfl
end
/-- data are like themselves -/
theorem eqD_self {d : D} {n : Nat} (o : okE n d = true) : eqD d d = true := SeqAt.eqv_refl _ (okE_lay d n o).1
theorem app_len {M : List MO} {o : MO} : (M ++ [o])[M.length]? = some o := by rw [List.getElem?_append_right (Nat.le_refl _)]; simp
theorem set_app {M : List MO} {o z : MO} : (M ++ [o]).set M.length z = M ++ [z] := by rw [List.set_append_right _ _ (Nat.le_refl _)]; simp
/-! ### repr of None too -/
section
variable {X : Cx} {E : WX} {a : Expr} {Wa : DE} {pos : Pos}
/-- a slice of a tuple, not the whole of it -/
def dSlT (a : DE) (lo hi : DPt) : DE := fun ρ m Φ Ψ => a ρ m (fun d m1 => lo ρ m1 (fun l m2 => hi ρ m2 (fun u m3 => match d with
  | .tup ds => ¬ (HT.sIx ds.length 0 l = 0 ∧ HT.sIx ds.length ds.length u = ds.length) ∧ Φ (.tup (cutD ds l u)) m3
  | _ => False) Ψ) Ψ) Ψ
end
end Dl

namespace Dl
open PySem L2
/-! ### a def that stands under another name; targets that are fields -/
section
variable {X : Cx} {E : WX} {o : Expr} {Wo : DE} {pos : Pos} {js : List Nat}
/-- o.f as a target -/
def dgFld (cs : List String) (f : String) (o : DE) : DG := fun d ρ m k => o ρ m (fun x m2 => match x with
  | .hnd i => match moI m2.M[i]? with
    | some (c, fs) => cs.contains c = true ∧ fs.length < 1000 ∧ k ρ ⟨m2.M.set i (.ins c (putD f d fs)), m2.s⟩
    | none => False
  | _ => False) XF
abbrev DGs := List D → Env → MM → (Env → MM → Prop) → Prop
def dgsNil : DGs := fun ds ρ m k => match ds with
  | [] => k ρ m
  | _ => False
def dgsCons (g : DG) (r : DGs) : DGs := fun ds ρ m k => match ds with
  | d :: ds => g d ρ m (fun ρ1 m1 => r ds ρ1 m1 k)
  | [] => False
theorem PGs.imp {ts : List Expr} {t t' : TGs} (h : PGs X ts t) (i : ∀ vs σ H Q, t' vs σ H Q → t vs σ H Q) : PGs X ts t' := ⟨fun pins s σ H vs us Q I r q => h.run pins s σ H vs us Q I r (i vs σ H Q q)⟩
def dgTupG (n : Nat) (G : DGs) : DG := fun d ρ m k => match asT d with
  | some ds => ds.length = n ∧ G ds ρ m k
  | none => False
end
end Dl

namespace Dl
open PySem L2
/-! ### a comprehension whose items change the store; [x] * n as a changing list -/
section
variable {X : Cx} {E : WX}
end
end Dl

namespace Dl
open PySem L2
/-! ### a changing list by a comprehension whose items change the store -/
section
variable {X : Cx} {E : WX}
end
end Dl

namespace Dl
open PySem L2
/-! ### a walk over a tuple -/
section
variable {X : Cx} {E : WX}
end
end Dl


namespace Dl
open PySem L2
/-! ### a head by facts: what the top has bound, from one run -/
abbrev AlM : Type := He.Al × Bool
def obsM (fa : List He.Fa) (fn : List He.FnD) (ck : List (PySem.W.Frag → Bool)) (K : PySem.W.Frag) : AlM := (He.obsE fa fn K, ck.all fun f => f K)
def SaysM (fa : List He.Fa) (fn : List He.FnD) (ck : List (PySem.W.Frag → Bool)) (K : PySem.W.Frag) : Prop := obsM fa fn ck K = (He.valE fn, true)
def obsMG (n : Nat) (fa : List He.Fa) (fn : List He.FnD) (ck : List (PySem.W.Frag → Bool)) (g : Addr → Option Obj) : AlM := obsM fa fn ck (He.frG g (List.range n))
def hookM (n : Nat) (fa : List He.Fa) (fn : List He.FnD) (ck : List (PySem.W.Frag → Bool)) : PySem.W.Hook where
  α := AlM
  obs := fun s => obsMG n fa fn ck s.heap.get?
  val := fun _ => (He.valE fn, true)
  says := fun _ h => ∃ K : PySem.W.Frag, K.In h ∧ SaysM fa fn ck K
  of := fun _ _ e => ⟨_, He.frG_in, e⟩
  keeps := fun _ _ _ ⟨K, hK, c⟩ k => ⟨K, PySem.W.Frag.In.keeps hK k, c⟩
theorem obsMG_eq {n : Nat} {fa : List He.Fa} {fn : List He.FnD} {ck : List (PySem.W.Frag → Bool)} {g : Addr → Option Obj} {s : Shared} (h : ∀ a, g a = s.heap.get? a) : obsMG n fa fn ck g = (hookM n fa fn ck).obs s := by
  have e : g = s.heap.get? := funext h
  rw [e] <;> rfl
section
variable {fa : List He.Fa} {fn : List He.FnD} {ck : List (PySem.W.Frag → Bool)} {K : PySem.W.Frag} {h : Heap} {mg : Str → Option Value}
theorem SaysM.e (c : SaysM fa fn ck K) : He.SaysE fa fn K := congrArg (fun z : AlM => z.1) c
theorem SaysM.fact (c : SaysM fa fn ck K) (i : Nat) {f : He.Fa} (hf : fa[i]? = some f) : f.ok K = true := c.e.fact i hf
theorem defT_he (X : K.In h) (G : h.Ns mainGlobals mg) (c : SaysM fa fn ck K) {x : Str} {st : Stmt} {ps : List Str} (i j k : Nat) (hd : fn[i]? = some ⟨(x, none), x, x, defArgs st, defBody st, defScope st⟩) (hg : fa[j]? = some (.glo x)) (hk : fa[k]? = some (.keep x))
    (b : ∀ (kV doc pm : Value) (an : Option Addr) (cdv ct : Value) (us : List Value), us.length = ps.length → bindArgs (PySem.W.fnOf x x (defArgs st) (defBody st) (defScope st) .none kV doc pm an cdv ct) ⟨us, []⟩ = pure (ps.zip us)) : DefT K mg x st ps := by
  obtain ⟨oc, od, osl, kV, doc, pm, an, cdv, ct, l, cc⟩ := c.e.def_ i hd
  exact ⟨He.ga K x, _, fun_mk l cc (He.keep_ok (c.fact k hk)), He.glo_ok X G (c.fact j hg), b kV doc pm an cdv ct⟩
end
/-! ### own exceptions -/
section
variable {fa : List He.Fa} {fn : List He.FnD} {ck : List (PySem.W.Frag → Bool)} {K : PySem.W.Frag} {h : Heap} {mg : Str → Option Value}
end
/-! ### errors that are caught -/
section
variable {fa : List He.Fa} {fn : List He.FnD} {ck : List (PySem.W.Frag → Bool)} {K : PySem.W.Frag} {h : Heap} {mg : Str → Option Value}
end
/-! a text at the top -/
/-! own errors and ValueError -/
/-! a tuple of texts at the top -/
theorem walk_DE {l : PySem.W.OpenLaw} {k : Nat} {q : Program} {loose : List Str} {XP : (Str → Option Value) → Heap → Prop} {YP : World → Heap → Prop} {d : DefRec} {x : Str}
    (hn : l.most = some 63) (hdf : d.params.defaults = []) (hr : Room k callerA)
    (F : ∀ (w : World) (mg : Str → Option Value) (fa : Addr) (h : Heap), YP w h → h.Ns mainGlobals mg → mg d.name = some (.ref fa) → ∃ (K : PySem.W.Frag) (fd : FuncData), K.In h ∧ (∀ (s : Shared) (u : Value), BindsTo s fd ⟨[u], []⟩ [(x, u)]) ∧
      ∀ base : Heap, K.In base → base.Ns mainGlobals mg → FnOk l.prog w K mg base (L2.CX l.prog w) k fa fd [x] (spOf K 1 (CLaw ClawT))) :
    PySem.W.WalkO q loose XP YP l.row.toRowW d [] (fun f vs => PySem.call f vs) := by
  refine Att.attach_call hn hdf fun w s₀ s₁ mg mb fa o pm cd doc a vs ns G Y ho hd hcd hmg hobj hints hlen hg => ?_
  obtain ⟨K, fd, KX, hb, hF⟩ := F w mg fa _ Y G.T.g hmg
  exact law_call KX G.T.g G.T.b G.T.builtins G.T.nolimit hg hobj hints (Nat.le_trans hlen (by decide)) hr hF hb (fun H hO hS => law_sp hlen hS) fun H e s' z => cx_false z
section
open PySem PySem.W PySem.Calls PyProof.Rows HandSHeadRun
noncomputable abbrev endK (r : OpenRow) (M : Nat) (w : World) (os : OsState) : Option SharedT := endF (stepQ (denQ tabQ) r.prog w) M r.prog w os
noncomputable abbrev lookK (r : OpenRow) (w : World) (s : SharedT) : Bool := looksF r.prog (boot_heap w.params) s.abs
noncomputable abbrev seenK (r : OpenRow) (q : Program) (loose : List PySem.Str) (s : SharedT) := seenQ q loose (importedModules r.prog.main.body) (fun s => xlAt q [] s && recOk r.toRowW.records s) s.abs
theorem runEq_of {r : OpenRow} {q : Program} {H : Hook} {ob : SharedT → H.α} {M : Nat} {loose : List PySem.Str} {w : World}
    (a : ∀ os, (endK r M w os).map (lookK r w) = some true) (b : ∀ os, (endK r M w os).map (seenK r q loose) = some (openGood q loose))
    (c : ∀ os, (endK r M w os).map ob = some (H.val w)) : RunEq r q H ob M loose w := by
  intro os
  obtain ⟨s, h1, h2⟩ := Option.map_eq_some_iff.mp (a os)
  have h3 := b os
  have h4 := c os
  unfold endK at h1 h3 h4
  rw [h1] at h3 h4 ⊢
  have h3 := Option.some.inj h3
  have h4 := Option.some.inj h4
  unfold lookK at h2
  unfold seenK at h3
  exact congrArg some (Prod.ext h2 (Prod.ext h3 h4))
end
theorem obsM_split {fa : List He.Fa} {fn : List He.FnD} {ck : List (PySem.W.Frag → Bool)} {K : PySem.W.Frag} (a : obsM fa [] ck K = ((true, []), true)) (b : obsM [] fn [] K = (He.valE fn, true)) : obsM fa fn ck K = (He.valE fn, true) := by
  have a1 : ((fa.all fun f => f.ok K) && ([] : List He.FnD).all fun d => (He.Fa.code d.at_ d.qual).ok K) = true := congrArg (fun z : AlM => z.1.1) a
  have a2 : (ck.all fun f => f K) = true := congrArg (fun z : AlM => z.2) a
  have b1 : (([] : List He.Fa).all (fun f => f.ok K) && fn.all fun d => (He.Fa.code d.at_ d.qual).ok K) = true := congrArg (fun z : AlM => z.1.1) b
  have b2 : (fn.map fun d => He.fnObs K d.at_) = fn.map He.FnD.val := congrArg (fun z : AlM => z.1.2) b
  have a1 := (Bool.and_eq_true_iff.mp a1).1
  have b1 := (Bool.and_eq_true_iff.mp b1).2
  show ((((fa.all fun f => f.ok K) && fn.all fun d => (He.Fa.code d.at_ d.qual).ok K), fn.map fun d => He.fnObs K d.at_), ck.all fun f => f K) = ((true, fn.map He.FnD.val), true)
  rw [a1, a2, b1, b2]
  rfl
section
open PySem PySem.W PySem.Calls PyProof.Rows HandSHeadRun
theorem runC_of {r : OpenRow} {n M : Nat} {fa : List He.Fa} {fn : List He.FnD} {ck : List (PySem.W.Frag → Bool)} {w : World}
    (a : ∀ os, (endK r M w os).map (fun s => obsMG n fa [] ck (getT s)) = some ((true, []), true)) (b : ∀ os, (endK r M w os).map (fun s => obsMG n [] fn [] (getT s)) = some (He.valE fn, true)) :
    ∀ os, (endK r M w os).map (fun s => obsMG n fa fn ck (getT s)) = some (He.valE fn, true) := by
  intro os
  obtain ⟨s, h1, h2⟩ := Option.map_eq_some_iff.mp (a os)
  have h3 := b os
  rw [h1] at h3 ⊢
  exact congrArg some (obsM_split h2 (Option.some.inj h3))
end
end Dl

namespace K77
open PySem L2 Dl
def top (i : Nat) : Stmt := PySem.Challenge.pw_layerask_k77_whole_counts_of_bags.main.body.getD i (.Pass ⟨0, 0, 0, 0⟩)
abbrev s_mark : Stmt := top 1
theorem sc_mark : FnScope ["row", "s", "p", "total", "number"] ["row", "s", "p"] (defScope s_mark) := ⟨rfl, rfl, rfl, by decide +kernel, rfl, by decide +kernel, by decide +kernel⟩
abbrev s_product : Stmt := top 2
theorem sc_product : FnScope ["rows", "s", "t", "p", "result", "row"] ["rows", "s", "t", "p"] (defScope s_product) := ⟨rfl, rfl, rfl, by decide +kernel, rfl, by decide +kernel, by decide +kernel⟩
abbrev s_same_bag : Stmt := top 3
theorem sc_same_bag : FnScope ["rows", "others", "s", "t", "p"] ["rows", "others", "s", "t", "p"] (defScope s_same_bag) := ⟨rfl, rfl, rfl, by decide +kernel, rfl, by decide +kernel, by decide +kernel⟩
abbrev s_count_of : Stmt := top 4
theorem sc_count_of : FnScope ["rows", "row", "other"] ["rows", "row"] (defScope s_count_of) := ⟨rfl, rfl, rfl, by decide +kernel, rfl, by decide +kernel, by decide +kernel⟩
abbrev s_bag_blame : Stmt := top 5
theorem sc_bag_blame : FnScope ["rows", "others", "s", "t", "p", "marks", "row", "other"] ["rows", "others", "s", "t", "p"] (defScope s_bag_blame) := ⟨rfl, rfl, rfl, by decide +kernel, rfl, by decide +kernel, by decide +kernel⟩
abbrev s_most_same : Stmt := top 6
theorem sc_most_same : FnScope ["many", "width", "p"] ["many", "width", "p"] (defScope s_most_same) := ⟨rfl, rfl, rfl, by decide +kernel, rfl, by decide +kernel, by decide +kernel⟩
abbrev s__law_state : Stmt := top 8
theorem sc__law_state : FnScope ["_law_script", "_law_seed", "_law_cell"] ["_law_script"] (defScope s__law_state) := ⟨rfl, rfl, rfl, by decide +kernel, rfl, by decide +kernel, by decide +kernel⟩
abbrev s__law_draw : Stmt := top 9
theorem sc__law_draw : FnScope ["_law_state_here", "_law_many", "_law_cells", "_law_mixed", "_law_value"] ["_law_state_here", "_law_many"] (defScope s__law_draw) := ⟨rfl, rfl, rfl, by decide +kernel, rfl, by decide +kernel, by decide +kernel⟩
abbrev s__law_pick : Stmt := top 10
theorem sc__law_pick : FnScope ["_law_state_here", "_law_row"] ["_law_state_here", "_law_row"] (defScope s__law_pick) := ⟨rfl, rfl, rfl, by decide +kernel, rfl, by decide +kernel, by decide +kernel⟩
abbrev s__law_rows : Stmt := top 11
theorem sc__law_rows : FnScope ["_law_state_here", "_law_many", "_law_width", "_law_p", "_law_pool", "_law_j", "_law_k"] ["_law_state_here", "_law_many", "_law_width", "_law_p"] (defScope s__law_rows) := ⟨rfl, rfl, rfl, by decide +kernel, rfl, by decide +kernel, by decide +kernel⟩
abbrev s__law_mark : Stmt := top 12
theorem sc__law_mark : FnScope ["_law_row", "_law_s", "_law_p", "_law_total", "_law_factor", "_law_number"] ["_law_row", "_law_s", "_law_p"] (defScope s__law_mark) := ⟨rfl, rfl, rfl, by decide +kernel, rfl, by decide +kernel, by decide +kernel⟩
abbrev s__law_product : Stmt := top 13
theorem sc__law_product : FnScope ["_law_rows_here", "_law_s", "_law_t", "_law_p", "_law_result", "_law_row"] ["_law_rows_here", "_law_s", "_law_t", "_law_p"] (defScope s__law_product) := ⟨rfl, rfl, rfl, by decide +kernel, rfl, by decide +kernel, by decide +kernel⟩
abbrev s__law_turned : Stmt := top 14
theorem sc__law_turned : FnScope ["_law_state_here", "_law_rows_here", "_law_left", "_law_found"] ["_law_state_here", "_law_rows_here"] (defScope s__law_turned) := ⟨rfl, rfl, rfl, by decide +kernel, rfl, by decide +kernel, by decide +kernel⟩
abbrev s__law_times : Stmt := top 15
theorem sc__law_times : FnScope ["_law_rows_here", "_law_row", "_law_other_here"] ["_law_rows_here", "_law_row"] (defScope s__law_times) := ⟨rfl, rfl, rfl, by decide +kernel, rfl, by decide +kernel, by decide +kernel⟩
abbrev s__law_other : Stmt := top 16
theorem sc__law_other : FnScope ["_law_state_here", "_law_rows_here", "_law_width", "_law_p", "_law_kind", "_law_other_here", "_law_k", "_law_row", "_law_j"] ["_law_state_here", "_law_rows_here", "_law_width", "_law_p"] (defScope s__law_other) := ⟨rfl, rfl, rfl, by decide +kernel, rfl, by decide +kernel, by decide +kernel⟩
abbrev s__law_due : Stmt := top 17
theorem sc__law_due : FnScope ["_law_rows_here", "_law_others", "_law_s", "_law_t", "_law_p", "_law_row", "_law_found", "_law_one"] ["_law_rows_here", "_law_others", "_law_s", "_law_t", "_law_p"] (defScope s__law_due) := ⟨rfl, rfl, rfl, by decide +kernel, rfl, by decide +kernel, by decide +kernel⟩
abbrev s_law : Stmt := top 18
theorem sc_law : FnScope ["_law_script", "_law_state_here", "_law_p", "_law_width", "_law_rows_here", "_law_others", "_law_count", "_law_s", "_law_most", "_law_t", "_law_told", "_law_due_here"] ["_law_script"] (defScope s_law) := ⟨rfl, rfl, rfl, by decide +kernel, rfl, by decide +kernel, by decide +kernel⟩
structure Txt (K : PySem.W.Frag) (mg : Str → Option Value) : Prop where
  d_mark : DefT K mg "mark" s_mark ["row", "s", "p"]
  d_product : DefT K mg "product" s_product ["rows", "s", "t", "p"]
  d_same_bag : DefT K mg "same_bag" s_same_bag ["rows", "others", "s", "t", "p"]
  d_count_of : DefT K mg "count_of" s_count_of ["rows", "row"]
  d_bag_blame : DefT K mg "bag_blame" s_bag_blame ["rows", "others", "s", "t", "p"]
  d_most_same : DefT K mg "most_same" s_most_same ["many", "width", "p"]
  d__law_state : DefT K mg "_law_state" s__law_state ["_law_script"]
  d__law_draw : DefT K mg "_law_draw" s__law_draw ["_law_state_here", "_law_many"]
  d__law_pick : DefT K mg "_law_pick" s__law_pick ["_law_state_here", "_law_row"]
  d__law_rows : DefT K mg "_law_rows" s__law_rows ["_law_state_here", "_law_many", "_law_width", "_law_p"]
  d__law_mark : DefT K mg "_law_mark" s__law_mark ["_law_row", "_law_s", "_law_p"]
  d__law_product : DefT K mg "_law_product" s__law_product ["_law_rows_here", "_law_s", "_law_t", "_law_p"]
  d__law_turned : DefT K mg "_law_turned" s__law_turned ["_law_state_here", "_law_rows_here"]
  d__law_times : DefT K mg "_law_times" s__law_times ["_law_rows_here", "_law_row"]
  d__law_other : DefT K mg "_law_other" s__law_other ["_law_state_here", "_law_rows_here", "_law_width", "_law_p"]
  d__law_due : DefT K mg "_law_due" s__law_due ["_law_rows_here", "_law_others", "_law_s", "_law_t", "_law_p"]
  d_law : DefT K mg "law" s_law ["_law_script"]
  n_abs : mg "abs" = none
  n_int : mg "int" = none
  n_len : mg "len" = none
  n_list : mg "list" = none
  n_max : mg "max" = none
  n_min : mg "min" = none
  n_range : mg "range" = none
  n_sorted : mg "sorted" = none
def nm0 : List PySem.Str := ["__name__", "mark", "product", "same_bag", "count_of", "bag_blame", "most_same", "_law_state", "_law_draw", "_law_pick", "_law_rows", "_law_mark", "_law_product", "_law_turned", "_law_times", "_law_other", "_law_due"]
def fa0 : List He.Fa := [.glo "mark",
  .keep "mark",
  .glo "product",
  .keep "product",
  .glo "same_bag",
  .keep "same_bag",
  .glo "count_of",
  .keep "count_of",
  .glo "bag_blame",
  .keep "bag_blame",
  .glo "most_same",
  .keep "most_same",
  .glo "_law_state",
  .keep "_law_state",
  .glo "_law_draw",
  .keep "_law_draw",
  .glo "_law_pick",
  .keep "_law_pick",
  .glo "_law_rows",
  .keep "_law_rows"]
def fa1 : List He.Fa := [.glo "_law_mark",
  .keep "_law_mark",
  .glo "_law_product",
  .keep "_law_product",
  .glo "_law_turned",
  .keep "_law_turned",
  .glo "_law_times",
  .keep "_law_times",
  .glo "_law_other",
  .keep "_law_other",
  .glo "_law_due",
  .keep "_law_due",
  .glo "law",
  .keep "law",
  .free "abs",
  .free "int",
  .free "len",
  .free "list",
  .free "max",
  .free "min"]
def fa2 : List He.Fa := [.free "range",
  .free "sorted"]
def fn0 : List He.FnD := [⟨("mark", none), "mark", "mark", defArgs s_mark, defBody s_mark, defScope s_mark⟩,
  ⟨("product", none), "product", "product", defArgs s_product, defBody s_product, defScope s_product⟩,
  ⟨("same_bag", none), "same_bag", "same_bag", defArgs s_same_bag, defBody s_same_bag, defScope s_same_bag⟩,
  ⟨("count_of", none), "count_of", "count_of", defArgs s_count_of, defBody s_count_of, defScope s_count_of⟩,
  ⟨("bag_blame", none), "bag_blame", "bag_blame", defArgs s_bag_blame, defBody s_bag_blame, defScope s_bag_blame⟩,
  ⟨("most_same", none), "most_same", "most_same", defArgs s_most_same, defBody s_most_same, defScope s_most_same⟩,
  ⟨("_law_state", none), "_law_state", "_law_state", defArgs s__law_state, defBody s__law_state, defScope s__law_state⟩,
  ⟨("_law_draw", none), "_law_draw", "_law_draw", defArgs s__law_draw, defBody s__law_draw, defScope s__law_draw⟩,
  ⟨("_law_pick", none), "_law_pick", "_law_pick", defArgs s__law_pick, defBody s__law_pick, defScope s__law_pick⟩,
  ⟨("_law_rows", none), "_law_rows", "_law_rows", defArgs s__law_rows, defBody s__law_rows, defScope s__law_rows⟩,
  ⟨("_law_mark", none), "_law_mark", "_law_mark", defArgs s__law_mark, defBody s__law_mark, defScope s__law_mark⟩,
  ⟨("_law_product", none), "_law_product", "_law_product", defArgs s__law_product, defBody s__law_product, defScope s__law_product⟩,
  ⟨("_law_turned", none), "_law_turned", "_law_turned", defArgs s__law_turned, defBody s__law_turned, defScope s__law_turned⟩,
  ⟨("_law_times", none), "_law_times", "_law_times", defArgs s__law_times, defBody s__law_times, defScope s__law_times⟩,
  ⟨("_law_other", none), "_law_other", "_law_other", defArgs s__law_other, defBody s__law_other, defScope s__law_other⟩,
  ⟨("_law_due", none), "_law_due", "_law_due", defArgs s__law_due, defBody s__law_due, defScope s__law_due⟩,
  ⟨("law", none), "law", "law", defArgs s_law, defBody s_law, defScope s_law⟩]
def ck0 : List (PySem.W.Frag → Bool) := []
def names : List PySem.Str := nm0
def fa : List He.Fa := fa0 ++ fa1 ++ fa2
def fn : List He.FnD := fn0
def ck : List (PySem.W.Frag → Bool) := ck0
abbrev R : PySem.W.OpenRow := PySem.W.OpenLaw.row PySem.Challenge.rw_layerask_k77_whole_counts_of_bags
abbrev hk : PySem.W.Hook := hookM 1500 fa fn ck
def ob (s : PySem.W.SharedT) : AlM := obsMG 1500 fa fn ck (HandSHeadRun.getT s)
theorem ob_eq (s : PySem.W.SharedT) : ob s = hk.obs s.abs := obsMG_eq (HandSHeadRun.getT_eq s)
theorem runA (w : World) : ∀ os, (endK R 20000 w os).map (lookK R w) = some true := by
  intro os
  kernel_rfl
theorem runB (w : World) : ∀ os, (endK R 20000 w os).map (seenK R (PySem.W.view R.prog [18]) names) = some (PySem.W.openGood (PySem.W.view R.prog [18]) names) := by
  intro os
  kernel_rfl
theorem runC1 (w : World) : ∀ os, (endK R 20000 w os).map (fun s => obsMG 1500 fa [] ck (HandSHeadRun.getT s)) = some ((true, []), true) := by
  intro os
  kernel_rfl
theorem runC2 (w : World) : ∀ os, (endK R 20000 w os).map (fun s => obsMG 1500 [] fn [] (HandSHeadRun.getT s)) = some (He.valE fn, true) := by
  intro os
  kernel_rfl
theorem run (w : World) : HandSHeadRun.RunEq R (PySem.W.view R.prog [18]) hk ob 20000 names w := runEq_of (runA w) (runB w) (runC_of (runC1 w) (runC2 w))
theorem he_txt {K : PySem.W.Frag} {h : Heap} {mg : Str → Option Value} (X : K.In h) (G : h.Ns mainGlobals mg) (c : SaysM fa fn ck K) : Txt K mg := {
  d_mark := defT_he X G c 0 0 1 rfl rfl rfl (fun _ _ _ _ _ _ us hl => match us, hl with | [_, _, _], _ => rfl)
  d_product := defT_he X G c 1 2 3 rfl rfl rfl (fun _ _ _ _ _ _ us hl => match us, hl with | [_, _, _, _], _ => rfl)
  d_same_bag := defT_he X G c 2 4 5 rfl rfl rfl (fun _ _ _ _ _ _ us hl => match us, hl with | [_, _, _, _, _], _ => rfl)
  d_count_of := defT_he X G c 3 6 7 rfl rfl rfl (fun _ _ _ _ _ _ us hl => match us, hl with | [_, _], _ => rfl)
  d_bag_blame := defT_he X G c 4 8 9 rfl rfl rfl (fun _ _ _ _ _ _ us hl => match us, hl with | [_, _, _, _, _], _ => rfl)
  d_most_same := defT_he X G c 5 10 11 rfl rfl rfl (fun _ _ _ _ _ _ us hl => match us, hl with | [_, _, _], _ => rfl)
  d__law_state := defT_he X G c 6 12 13 rfl rfl rfl (fun _ _ _ _ _ _ us hl => match us, hl with | [_], _ => rfl)
  d__law_draw := defT_he X G c 7 14 15 rfl rfl rfl (fun _ _ _ _ _ _ us hl => match us, hl with | [_, _], _ => rfl)
  d__law_pick := defT_he X G c 8 16 17 rfl rfl rfl (fun _ _ _ _ _ _ us hl => match us, hl with | [_, _], _ => rfl)
  d__law_rows := defT_he X G c 9 18 19 rfl rfl rfl (fun _ _ _ _ _ _ us hl => match us, hl with | [_, _, _, _], _ => rfl)
  d__law_mark := defT_he X G c 10 20 21 rfl rfl rfl (fun _ _ _ _ _ _ us hl => match us, hl with | [_, _, _], _ => rfl)
  d__law_product := defT_he X G c 11 22 23 rfl rfl rfl (fun _ _ _ _ _ _ us hl => match us, hl with | [_, _, _, _], _ => rfl)
  d__law_turned := defT_he X G c 12 24 25 rfl rfl rfl (fun _ _ _ _ _ _ us hl => match us, hl with | [_, _], _ => rfl)
  d__law_times := defT_he X G c 13 26 27 rfl rfl rfl (fun _ _ _ _ _ _ us hl => match us, hl with | [_, _], _ => rfl)
  d__law_other := defT_he X G c 14 28 29 rfl rfl rfl (fun _ _ _ _ _ _ us hl => match us, hl with | [_, _, _, _], _ => rfl)
  d__law_due := defT_he X G c 15 30 31 rfl rfl rfl (fun _ _ _ _ _ _ us hl => match us, hl with | [_, _, _, _, _], _ => rfl)
  d_law := defT_he X G c 16 32 33 rfl rfl rfl (fun _ _ _ _ _ _ us hl => match us, hl with | [_], _ => rfl)
  n_abs := He.free_ok X G (c.fact 34 rfl)
  n_int := He.free_ok X G (c.fact 35 rfl)
  n_len := He.free_ok X G (c.fact 36 rfl)
  n_list := He.free_ok X G (c.fact 37 rfl)
  n_max := He.free_ok X G (c.fact 38 rfl)
  n_min := He.free_ok X G (c.fact 39 rfl)
  n_range := He.free_ok X G (c.fact 40 rfl)
  n_sorted := He.free_ok X G (c.fact 41 rfl)
  }
end K77
section
open PySem PySem.W PySem.Calls PyProof.Rows
theorem K77.pre (hc : PySem.W.WalkO (PySem.W.view (PySem.W.OpenLaw.row PySem.Challenge.rw_layerask_k77_whole_counts_of_bags).prog [18]) K77.names (PySem.W.XL (PySem.W.view (PySem.W.OpenLaw.row PySem.Challenge.rw_layerask_k77_whole_counts_of_bags).prog [18]) []) K77.hk.says (PySem.W.OpenRow.toRowW (PySem.W.OpenLaw.row PySem.Challenge.rw_layerask_k77_whole_counts_of_bags)) (HandSHeadRun.topDef (PySem.W.OpenLaw.row PySem.Challenge.rw_layerask_k77_whole_counts_of_bags).prog 18) [] (fun f vs => PySem.call f vs)) : PySem.Challenge.rw_layerask_k77_whole_counts_of_bags.Holds := by
  w_on; o_law
  refine HandSHeadRun.head_any (r := PySem.W.OpenLaw.row PySem.Challenge.rw_layerask_k77_whole_counts_of_bags) (q := PySem.W.view (PySem.W.OpenLaw.row PySem.Challenge.rw_layerask_k77_whole_counts_of_bags).prog [18]) (H := K77.hk) (ob := K77.ob) (M := 20000) (loose := K77.names) (d := HandSHeadRun.topDef (PySem.W.OpenLaw.row PySem.Challenge.rw_layerask_k77_whole_counts_of_bags).prog 18) (kwd := []) K77.ob_eq
    (by kernel_rfl) (fun s => by kernel_rfl) K77.run (by kernel_rfl) (by kernel_rfl) (by kernel_rfl) (by rfl) (by first | assumption | decide +kernel) (by decide +kernel) ⟨rfl, rfl, rfl, rfl, rfl, by decide +kernel⟩ ?hw hc
  case hw => w_witness2
end
namespace Dl
open PySem L2
/-! ### enumerate over a tuple -/
local macro_rules | `(tactic| walk_at "dl") => `(tactic| try simp only [dSeq, dSet, dRaise_one, dRaise_two, dTryAs, dXf, dIsE, List.lookup_cons, List.lookup_nil, beq_self_eq_true, Bool.false_eq_true, if_false, dOp, dUn, dVar, dC, dCB, dCons, dNil, dRet, dRetN, dIf, dB, dAnd, dOr, dNot, dDrop, dNext, dMethL, dSetIx, dAndV, dOrV, dNotV, dBlV, dIfE, dLst, dTup, dLstM, dCall, dChain, dAsg, dgName, dgTup, bindD, asT, dFor, diList, diRng1, diRng2, diEnumerate, diZip, diReversed, dLc, dLcM, dYes, wipeD, dAug, dSl, dSlT, dpN, dpS,
  oI, oI0, oB0, oAdd, oNeg, oEq, oNe, oIx, oIsN, oNotN, isNon, oShl, oApp, oPop, oPopAt, cLen, cInt, cAbs, cSum, cMax2, cMin2, cList, cIsi, tyD, asL, asF, asK, moL_lst, ModC, DivC,
  List.getElem?_cons_zero, List.getElem?_cons_succ, List.set_cons_zero, List.set_cons_succ, List.getElem?_nil, List.length_cons, List.length_nil, List.length_map, Option.map_some, Option.bind_some, Option.isSome_some, if_true, true_and, and_true, MM.push])
local macro_rules | `(tactic| walk_at "dx") => `(tactic| try simp only [eq_self_iff_true, okE_int, okE_bl, okE_non, eqD_int, eqD_bl, kq_NoneType_int, kq_NoneType_bool, kq_NoneType_list, kq_NoneType_tuple, kq_NoneType_str, kq_bool_int, kq_bool_bool, kq_bool_list, kq_bool_tuple, kq_bool_str, kq_int_int, kq_int_bool, kq_int_list, kq_int_tuple, kq_int_str, kq_str_int, kq_str_bool, kq_str_list, kq_str_tuple, kq_str_str, kq_list_int, kq_list_bool, kq_list_list, kq_list_tuple, kq_list_str, kq_tuple_int, kq_tuple_bool, kq_tuple_list, kq_tuple_tuple, kq_tuple_str, oInL, oIsB, oNotB, oEqH, oNeH, oShr, oExt, cMaxL, cMinL, cAny, cAll, cTuple, cListM, dRevL, dFld, dSetF, dAugF, dMeth, dMake, moI_ins, app_len, set_app, List.contains_cons, List.contains_nil, Bool.true_or,  Bool.true_eq_false, decide_true, not_true_eq_false, not_false_eq_true, Bool.not_true, Bool.not_false, decide_eq_true_eq, Bool.not_eq_true', decide_eq_false_iff_not, dSeq, dSet, dRaise_one, dRaise_two, dTryAs, dXf, dIsE, List.lookup_cons, List.lookup_nil, beq_self_eq_true, Bool.false_eq_true, if_false, dOp, dUn, dVar, dC, dCB, dCons, dNil, dRet, dRetN, dIf, dB, dAnd, dOr, dNot, dDrop, dNext, dMethL, dSetIx, dAndV, dOrV, dNotV, dBlV, dIfE, dLst, dTup, dLstM, dCall, dChain, dAsg, dgName, dgTup, bindD, asT, dFor, diList, diRng1, diRng2, diEnumerate, diZip, diReversed, dLc, dLcM, dYes, wipeD, dAug, dSl, dSlT, dpN, dpS,
  oI, oI0, oB0, oAdd, oNeg, oEq, oNe, oIx, oIsN, oNotN, isNon, oShl, oApp, oPop, oPopAt, cLen, cInt, cAbs, cSum, cMax2, cMin2, cList, cIsi, tyD, asL, asF, asK, moL_lst, ModC, DivC,
  List.getElem?_cons_zero, List.getElem?_cons_succ, List.set_cons_zero, List.set_cons_succ, List.getElem?_nil, List.length_cons, List.length_nil, List.length_map, Option.map_some, Option.bind_some, Option.isSome_some, if_true, true_and, and_true, MM.push])
local macro_rules | `(tactic| walk_at "lim") => `(tactic| repeat (first | (refine ⟨by decide, ?_⟩) | (refine ⟨by (try simp only [List.length_map, List.length_dropLast, List.length_append, List.length_cons, List.length_nil, List.length_replicate, List.length_take, List.length_drop, List.length_range]); (show _ ≤ 16777216); omega, ?_⟩)))

set_option hygiene false in
local macro_rules | `(tactic| walk_at "stp") => `(tactic| (refine dSeq_k fun k1 h1 => ?_; walk_at "dx"))
set_option hygiene false in
local macro_rules | `(tactic| walk_at "nxt") => `(tactic| (subst h1; (try dsimp only); refine dSeq_k fun k1 h1 => ?_; walk_at "dx"))
set_option hygiene false in
local macro_rules | `(tactic| walk_at "lst") => `(tactic| (subst h1; (try dsimp only); walk_at "dx"))
set_option hygiene false in
local macro_rules | `(tactic| walk_at "nxt2") => `(tactic| (subst h2; (try dsimp only); refine dSeq_k fun k2 h2 => ?_; walk_at "dx"))
set_option hygiene false in
local macro_rules | `(tactic| walk_at "stp2") => `(tactic| (refine dSeq_k fun k2 h2 => ?_; walk_at "dx"))
set_option hygiene false in
local macro_rules | `(tactic| walk_at "lst2") => `(tactic| (subst h2; (try dsimp only); walk_at "dx"))
set_option hygiene false in
local macro_rules | `(tactic| walk_at "nx0") => `(tactic| (subst h1; (try dsimp only); refine dSeq_k fun k1 h1 => ?_))

/-! ### the draw that answers 0 where there is nothing to draw from -/
open PySem L2 PyProof.Rows
/-! ### lists of numbers in order, lists of such sorted -/
theorem repAll_intsF {K : PySem.W.Frag} {w : Wd} : ∀ {ns : List Int} {us : List V}, RepAll K w (ns.map D.int) us → us = ns.map V.int
  | [], _, h => h
  | n :: ns, us, h => by
    obtain ⟨v, vs', rfl, a, b⟩ := h
    rw [repAll_intsF b]
    rw [show v = V.int n from a]
    rfl
/-- sorted: lists of numbers -/
def leR (a b : List Int) : Bool := PySem.W.dataLe false (PySem.W.Datum.toD : List Int → PyData) a b
def sortR (rows : List (List Int)) : List (List Int) := rows.mergeSort leR
inductive AllP {α β : Type} (R : α → β → Prop) : List α → List β → Prop where
  | nil : AllP R [] []
  | cons {a b as bs} : R a b → AllP R as bs → AllP R (a :: as) (b :: bs)
def rSortedR (K : PySem.W.Frag) : List V → Hp → VK → Prop := fun vs H Q => ∃ (a : Addr) (xs : List V) (rows : List (List Int)) (P : List Int → V → Prop), vs = [V.ref a] ∧ SqL K H a xs ∧ AllP P rows xs ∧ (∀ r x, P r x → ∃ b, x = .ref b ∧ SqL K H b (r.map V.int)) ∧ rows.length ≤ LIM ∧
  ∀ (xs' : List V) (p : Addr), AllP P (sortR rows) xs' → H p = none → Q (.ref p) (upd H p (.lst xs'))
theorem each_of {P : List Int → V → Prop} : ∀ {rows : List (List Int)} {xs : List V} {its : List Value}, AllP P rows xs → Vals xs its → PySem.W.EachIs (fun (v : Value) (r : List Int) => ∃ x, RelV x v ∧ P r x) its rows
  | _, _, _, .nil, .nil => .nil
  | _, _, _, .cons h t, .cons r rs => .cons ⟨_, r, h⟩ (each_of t rs)
theorem of_each {P : List Int → V → Prop} : ∀ {out : List Value} {rows : List (List Int)}, PySem.W.EachIs (fun (v : Value) (r : List Int) => ∃ x, RelV x v ∧ P r x) out rows → ∃ xs, Vals xs out ∧ AllP P rows xs
  | _, _, .nil => ⟨[], .nil, .nil⟩
  | _, _, .cons ⟨x, r, h⟩ t => let ⟨xs, a, b⟩ := of_each t; ⟨x :: xs, .cons r a, .cons h b⟩
theorem cr_sortedR {X : Cx} (hu : X.A.units + 65 < cLine) : CallR X (.builtin "sorted") (rSortedR X.K) := by
  intro pins s σ H vs us Q I r h
  obtain ⟨a, xs, rows, P, rfl, hs, hP, hr, hl, q⟩ := h
  obtain ⟨its, rv, hL, hz⟩ := I.list hs
  rw [Vals.ref1 r]
  have E := each_of hP rv
  have e2 : PySem.W.EachIs (fun (v : Value) (r : List Int) => ∃ as, Reads s.heap v (PySem.W.Datum.toD r) as) its rows := E.mono fun v r ⟨x, rx, px⟩ => by
    obtain ⟨b, rfl, hb⟩ := hr _ _ px
    cases rx
    obtain ⟨its2, r2, p2, _⟩ := I.list hb
    exact PySem.W.holds_list p2.isList (PySem.W.HoldAll.of_ints (Vals.ints r2))
  have hd : ∀ b : List Int, b ∈ rows → X.A.units + 2 + (PySem.W.Datum.toD b).depth < cLine := fun b _ => by
    have := PySem.W.Datum.depth_le b
    have : PySem.W.Datum.depth (List Int) ≤ 60 := by decide
    omega
  refine PySem.W.sorted_data (E := X.xe) (enc := PySem.W.Datum.toD) hL.isList E e2 (PySem.W.AllAlike.of fun b b' => PySem.W.DatumOrd.alike b b') (PySem.W.Sortable.others fun b => ⟨PySem.W.DatumOrd.notNone b, fun ys e => by cases e⟩) (lim_sz hl) hd fun out h1 h2 => ?_
  obtain ⟨xs', v', hP'⟩ := of_each h2
  obtain ⟨ep, he'⟩ := PyProof.Rows.sortedAll_at s.heap its out.toArray
  have hlen : xs'.length ≤ sizeLine := by
    rw [v'.length, h1]
    exact lim_sz hl
  exact ⟨.ref _, upd H (s.heap.objs.size + 1) (.lst xs'), I.laid (t' := s.toks) (fun _ _ => PyProof.Rows.sortedAll_old) (Nat.le_succ _) ⟨hlen, out, ep, v', he'⟩, rfl, q _ _ hP' (I.hok.fresh (Nat.le_succ _))⟩
def cSortR : DCB := fun ds m Φ => match ds with
  | [.lst xs] => ∃ rows : List (List Int), xs = rows.map (fun r => D.lst (r.map D.int)) ∧ rows.length ≤ LIM ∧ Φ (.lst ((sortR rows).map fun r => D.lst (r.map D.int))) m
  | _ => False
theorem allP_rep {K : PySem.W.Frag} {w : Wd} : ∀ {rows : List (List Int)} {xs : List V}, RepAll K w (rows.map fun r => D.lst (r.map D.int)) xs → AllP (fun r x => Rep K w (D.lst (r.map D.int)) x) rows xs
  | [], _, h => by
    have e : _ = [] := h
    subst e
    exact .nil
  | r :: rows, _, h => by
    obtain ⟨v, vs, rfl, a, b⟩ := h
    exact .cons a (allP_rep b)
theorem rep_allP {K : PySem.W.Frag} {w : Wd} : ∀ {rows : List (List Int)} {xs : List V}, AllP (fun r x => Rep K w (D.lst (r.map D.int)) x) rows xs → RepAll K w (rows.map fun r => D.lst (r.map D.int)) xs
  | _, _, .nil => rfl
  | _, _, .cons a b => ⟨_, _, rfl, a, rep_allP b⟩
theorem cbl_sortR {K : PySem.W.Frag} : CbL K (rSortedR K) cSortR := fun w m H ds vs Q Φ h r vl q => by
  unfold cSortR at q
  split at q
  · obtain ⟨rows, rfl, hl, q⟩ := q
    obtain ⟨v, rfl, rv⟩ := rep1 r
    obtain ⟨a, xs, rfl, ha, ra⟩ := asK_ok h (show asK m (.lst _) = some _ from rfl) rv
    refine ⟨a, xs, rows, fun r x => Rep K w (D.lst (r.map D.int)) x, rfl, .inl (.inl ha), allP_rep ra, fun r x hx => ?_, hl, fun xs' p hp hn => ?_⟩
    · obtain ⟨b, us, rfl, hb, rb⟩ := asK_ok h (show asK m (.lst (r.map D.int)) = some _ from rfl) hx
      exact ⟨b, rfl, .inl (.inl (by rw [← repAll_intsF rb]; exact hb))⟩
    · exact vl _ m _ _ _ (Wd.le_put (h.nof hn)) (h.put hn) (rep_put_lst h hn (rep_allP hp)) q
  · exact q.elim
/-! ### in, not in: a list that changes -/
/-! ### defs of the program that many laws reach -/
def PM (p : Int) : Prop := 2 ≤ p ∧ p ≤ 2147483647
theorem mod_in {p : Int} (hp : 2 ≤ p) {z : Int} : 0 ≤ z % p ∧ z % p < p := ⟨Int.emod_nonneg _ (by omega), Int.emod_lt_of_pos _ (by omega)⟩
theorem Cg.eq {p a b : Int} (h : Cg p a b) (a0 : 0 ≤ a ∧ a < p) (b0 : 0 ≤ b ∧ b < p) : a = b := by
  unfold Cg at h
  rw [Int.emod_eq_of_lt a0.1 a0.2, Int.emod_eq_of_lt b0.1 b0.2] at h
  exact h
/-! ### circuits -/
inductive Gate where
  | lin (a x b y : Int)
  | mul (c x y : Int)
def gD : Gate → D
  | .lin a x b y => .tup [.str (PySem.Str.ofString "lin"), .int a, .int x, .int b, .int y]
  | .mul c x y => .tup [.str (PySem.Str.ofString "mul"), .int c, .int x, .int y]
def gOK (p cols : Int) : Gate → Prop
  | .lin a x b y => (0 ≤ a ∧ a < p) ∧ (0 ≤ x ∧ x < cols) ∧ (0 ≤ b ∧ b < p) ∧ (0 ≤ y ∧ y < cols)
  | .mul c x y => (0 ≤ c ∧ c < p) ∧ (0 ≤ x ∧ x < cols) ∧ (0 ≤ y ∧ y < cols)
structure Cir where
  p : Int
  ws : List Int
  ls : List (List Gate)
def lD (l : List Gate) : D := .lst (l.map gD)
def cD (c : Cir) : D := .tup [.str (PySem.Str.ofString "circuit"), .int c.p, .lst (c.ws.map D.int), .lst (c.ls.map lD)]
structure CirOK (c : Cir) (most wide : Nat) : Prop where
  pm : PM c.p
  pr : Prim c.p
  l0 : 1 ≤ c.ls.length
  l1 : c.ls.length ≤ most
  wl : c.ws.length = c.ls.length + 1
  w0 : ∀ w ∈ c.ws, 0 ≤ w ∧ w ≤ wide
  ll : ∀ i < c.ls.length, ((c.ls.getD i []).length : Int) = 2 ^ (gi c.ws (i : Nat)).toNat
  gg : ∀ i < c.ls.length, ∀ g ∈ c.ls.getD i [], gOK c.p (2 ^ (gi c.ws ((i + 1 : Nat) : Int)).toNat) g
theorem plD_ints (xs : List Int) : plD (.lst (xs.map D.int)) = true := plDs_of fun d hd => by
  obtain ⟨g, _, rfl⟩ := List.mem_map.mp hd
  rfl
theorem pow_le8 {w : Int} {wide : Nat} (h : 0 ≤ w ∧ w ≤ wide) (hw : wide ≤ 3) : (2 : Int) ^ w.toNat ≤ 8 ∧ 1 ≤ (2 : Int) ^ w.toNat := by
  have : w = 0 ∨ w = 1 ∨ w = 2 ∨ w = 3 := by omega
  rcases this with rfl | rfl | rfl | rfl <;> exact ⟨by decide, by decide⟩
theorem gi_mem {xs : List Int} {i : Nat} (h : i < xs.length) : gi xs (i : Nat) ∈ xs := by
  rw [gi_nat, List.getD_eq_getElem?_getD, List.getElem?_eq_getElem h]
  exact List.getElem_mem h
theorem all2_mem {α β : Type} {P : α → Prop} : ∀ {xs : List β} {ys : List α}, All2 (fun _ y => P y) xs ys → ∀ y ∈ ys, P y
  | _, _, .nil, y, hy => by cases hy
  | _, _, .cons a h, y, hy => by
    rcases List.mem_cons.mp hy with e | e
    · rw [e]; exact a
    · exact all2_mem h y e
/-! ### a comprehension whose items look at what changes -/
/-! ### rows, runs -/
theorem app_len2 {M L : List MO} {x : MO} : (M ++ x :: L)[M.length]? = some x := by rw [List.getElem?_append_right (Nat.le_refl _)]; simp
theorem set_app2 {M L : List MO} {x z : MO} : (M ++ x :: L).set M.length z = M ++ z :: L := by rw [List.set_append_right _ _ (Nat.le_refl _)]; simp
def colsC (c : Cir) (i : Nat) : Int := 2 ^ (gi c.ws (i : Nat)).toNat
/-! the values of a circuit -/
def gv (p : Int) (below : List Int) : Gate → Int
  | .lin a x b y => (a * gi below x + b * gi below y) % p
  | .mul c x y => c * gi below x * gi below y % p
/-- all columns of all layers, the last layer being the inputs -/
def rr (p : Int) : List (List Gate) → List Int → List (List Int)
  | [], inp => [inp]
  | l :: ls, inp => (l.map (gv p ((rr p ls inp).headD []))) :: rr p ls inp
def intL (xs : List Int) : D := .lst (xs.map D.int)
def tabI (found : List (List (List Int))) (i cols : Nat) : List Int := (List.range cols).flatMap fun g => found.map fun f => gi (f.getD i []) (g : Nat)
def colsN (c : Cir) (i : Nat) : Nat := 2 ^ (gi c.ws (i : Nat)).toNat
theorem colsN_eq {c : Cir} {i : Nat} : (colsN c i : Int) = colsC c i := by unfold colsN colsC; simp
def tables (c : Cir) (R : List (List Int)) : List (List Int) := (List.range (c.ls.length + 1)).map fun i => tabI (R.map (rr c.p c.ls)) i (colsN c i)
def tabL (t : List (List Int)) : D := .lst (t.map intL)
def InP (p : Int) (xs : List Int) : Prop := ∀ x ∈ xs, 0 ≤ x ∧ x < p
theorem InP.gi {p : Int} {xs : List Int} (h : InP p xs) {z : Int} (h0 : 0 ≤ z) (hz : z < xs.length) : 0 ≤ gi xs z ∧ gi xs z < p := by
  have hl : z.toNat < xs.length := by omega
  unfold Dl.gi
  rw [List.getD_eq_getElem?_getD, List.getElem?_eq_getElem hl]
  exact h _ (List.getElem_mem hl)

/-- the values at 0, …, n - 1 -/
def vals (cs : List Int) (n : Nat) (p : Int) : List Int := (List.range n).map fun k : Nat => pev cs (k : Nat) % p

theorem InP.gN {p : Int} {xs : List Int} (h : InP p xs) {i : Nat} (hz : i < xs.length) : 0 ≤ Dl.gi xs (i : Nat) ∧ Dl.gi xs (i : Nat) < p := h.gi (by omega) (by omega)

theorem vals_len {cs : List Int} {n : Nat} {p : Int} : (vals cs n p).length = n := by
  unfold vals
  rw [List.length_map, List.length_range]
theorem vals_at {cs : List Int} {n k : Nat} {p : Int} (h : k < n) : gi (vals cs n p) (k : Nat) = pev cs (k : Nat) % p := by
  unfold vals
  rw [gi_range h]
/-! ### the value of a polynomial that is told by any values -/
def abM (k : Nat) (t p : Int) : Nat → Int
  | 0 => 1
  | j + 1 => if j = k then abM k t p j else abM k t p j * (t - (j : Nat)) % p
theorem abM_cg {k : Nat} {t p : Int} : ∀ j, Cg p (abM k t p j) (above k t j)
  | 0 => .refl
  | j + 1 => by
    unfold abM above
    split
    · exact abM_cg j
    · exact Cg.mod.trans ((abM_cg j).mul .refl)
def wtM (n : Nat) (t p : Int) (k : Nat) : Int := abM k t p n * ((abM k (k : Nat) p n) ^ (p - 2).toNat % p) % p
def valV (vs : List Int) (t p : Int) : Int := if t < vs.length then gi vs t else (S vs.length fun k => gi vs (k : Nat) * wtM vs.length t p k) % p
def cornV (vs : List Int) (p : Int) : Int := if vs.length = 1 then 2 * gi vs 0 % p else (gi vs 0 + gi vs 1) % p
theorem wtM_inv {p : Int} (P : Prim p) {n k : Nat} (hn : (n : Int) ≤ p) (hk : k < n) : Cg p (above k (k : Nat) n * (abM k (k : Nat) p n) ^ (p - 2).toNat) 1 := by
  have nb : ¬ Cg p (abM k (k : Nat) p n) 0 := fun z => above_ne P n hn (by omega) (abM_cg n |>.symm.trans z)
  rw [Int.mul_comm]
  exact (Cg.mul .refl (abM_cg n).symm).trans (fermat_inv P nb)
theorem valV_pev {p : Int} (P : Prim p) {cs : List Int} {n : Nat} {t : Int} (hcs : cs.length ≤ n) (hn0 : 0 < n) (hnp : (n : Int) ≤ p) (t0 : 0 ≤ t) : valV (vals cs n p) t p = pev cs t % p := by
  unfold valV
  rw [vals_len]
  split
  · rename_i h
    obtain ⟨t, rfl⟩ := Int.eq_ofNat_of_zero_le t0
    exact vals_at (by omega)
  · obtain ⟨j, rfl⟩ : ∃ j, n = j + 1 := ⟨n - 1, by omega⟩
    have lg := lagrange P (n := j) hnp (Pol.pev (p := p) cs hcs) (fun k => (abM k (k : Nat) p (j + 1)) ^ (p - 2).toNat) (fun k hk => wtM_inv P hnp (by omega)) t
    refine Cg.trans (S_cg (p := p) (j + 1) fun k hk => ?_) lg
    refine Cg.mul ?_ ?_
    · rw [vals_at hk]; exact .mod
    · exact Cg.mod.trans ((abM_cg _).mul .mod)
/-! ### folding, products, sums over the corners -/
def foldS (p : Int) (t : List Int) (x : Int) : List Int := (List.range (t.length / 2)).map fun k => (gi t (2 * (k : Nat)) + x * (gi t (2 * (k : Nat) + 1) - gi t (2 * (k : Nat)))) % p
theorem inP_mod {p : Int} (hp : 2 ≤ p) {α : Type} (f : α → Int) (xs : List α) : InP p (xs.map fun x => f x % p) := fun y hy => by
  obtain ⟨x, _, rfl⟩ := List.mem_map.mp hy
  exact ⟨Int.emod_nonneg _ (by omega), Int.emod_lt_of_pos _ (by omega)⟩
theorem foldS_len {p x : Int} {t : List Int} : (foldS p t x).length = t.length / 2 := by
  unfold foldS
  rw [List.length_map, List.length_range]
theorem foldS_in {p x : Int} (hp : 2 ≤ p) {t : List Int} : InP p (foldS p t x) := by
  unfold foldS
  exact inP_mod hp _ _
/-! ### sums over a comprehension with two walks -/
/-! ### the asker of a sum -/
def sentD : Option (List Int) → D
  | none => .non
  | some vs => .lst (vs.map D.int)
def askF (p cl : Int) (degs : List Int) (j : Nat) (sent : Option (List Int)) : List (String × D) := [("p", .int p), ("claim", .int cl), ("degrees", .lst (degs.map D.int)), ("throws", .hnd j), ("sent", sentD sent)]
structure Ask (m : MM) (k j : Nat) (p cl : Int) (degs ths : List Int) (sent : Option (List Int)) : Prop where
  ob : m.M[k]? = some (.ins "SumAsker" (askF p cl degs j sent))
  th : m.M[j]? = some (.lst (ths.map D.int))
  pm : PM p
  pr : Prim p
  lt : ths.length ≤ degs.length
  ld : degs.length ≤ 1000
  se : ∀ vs, sent = some vs → InP p vs ∧ vs.length ≤ 1000 ∧ (vs.length : Int) ≤ p ∧ 0 < vs.length
theorem Ask.ne {m : MM} {k j : Nat} {p cl : Int} {degs ths : List Int} {sent : Option (List Int)} (h : Ask m k j p cl degs ths sent) : k ≠ j := fun e => by
  have a := h.ob
  rw [e, h.th] at a
  cases a
/-- the fields' classes, as a law has them -/
class Fl_SumAsker (fl : String → List String) : Prop where
  p : (fl "p").contains "SumAsker" = true
  claim : (fl "claim").contains "SumAsker" = true
  degrees : (fl "degrees").contains "SumAsker" = true
  throws : (fl "throws").contains "SumAsker" = true
  sent : (fl "sent").contains "SumAsker" = true
local macro_rules | `(tactic| walk_at "dz") => `(tactic| (walk_at "dx"; (try simp only [Fl_SumAsker.p, Fl_SumAsker.claim, Fl_SumAsker.degrees, Fl_SumAsker.throws, Fl_SumAsker.sent, true_and])))
def askC (vs : List Int) (p cl : Int) (degs ths : List Int) : Bool := decide ((vs.length : Int) = gi degs (ths.length : Nat) + 1) && (vs.all (fun v => decide (0 ≤ v ∧ v < p)) && decide (cornV vs p = cl))
def corn (i left : Nat) : List Int := (List.range left).map fun j : Nat => ((i / 2 ^ j % 2 : Nat) : Int)
/-! ### the plain law: sums over corners, one variable at a time -/
theorem sum_cg {α : Type} {p : Int} {f g : α → Int} : ∀ (xs : List α), (∀ x ∈ xs, Cg p (f x) (g x)) → Cg p (xs.map f).sum (xs.map g).sum
  | [], _ => .refl
  | x :: xs, h => by
    rw [List.map_cons, List.map_cons, List.sum_cons, List.sum_cons]
    exact (h x (List.mem_cons_self ..)).add (sum_cg xs fun y hy => h y (List.mem_cons_of_mem _ hy))
theorem lsum_pol {p : Int} {n : Nat} {α : Type} {F : α → Int → Int} : ∀ xs : List α, (∀ x ∈ xs, Pol p n (F x)) → Pol p n fun t => (xs.map fun x => F x t).sum
  | [], _ => Pol.const 0
  | x :: xs, h => (h x (List.mem_cons_self ..)).add (lsum_pol xs fun y hy => h y (List.mem_cons_of_mem _ hy))
theorem foldl_len {p : Int} : ∀ (pt : List Int) (t : List Int) (l : Nat), t.length = 2 ^ (pt.length + l) → (pt.foldl (foldS p) t).length = 2 ^ l
  | [], t, l, h => by simpa using h
  | x :: pt, t, l, h => foldl_len pt _ l (by rw [foldS_len, h, List.length_cons, show pt.length + 1 + l = (pt.length + l) + 1 by omega, Nat.pow_succ]; omega)
theorem corn_succ {i l : Nat} : corn i (l + 1) = ((i % 2 : Nat) : Int) :: corn (i / 2) l := by
  unfold corn
  rw [List.range_succ_eq_map, List.map_cons, List.map_map]
  congr 1
  · rw [Nat.pow_zero, Nat.div_one]
  · refine List.map_congr_left fun j _ => ?_
    show ((i / 2 ^ (j + 1) % 2 : Nat) : Int) = _
    rw [Nat.div_div_eq_div_mul, ← Nat.pow_succ']
theorem sum_S_swap {α : Type} {F : α → Nat → Int} {N : Nat} : ∀ T : List α, (T.map fun row => S N (F row)).sum = S N fun a => (T.map fun row => F row a).sum
  | [] => by
    show (0 : Int) = S N fun _ => 0
    induction N with
    | zero => rfl
    | succ N ih => show (0 : Int) = S N _ + 0; omega
  | row :: T => by
    rw [List.map_cons, List.sum_cons, sum_S_swap T, ← S_add]
    rfl
theorem lcWM_any {α β : Type} {inj : α → D} {out : β → D} {g : DG} {te : DE} {ρ : Dl.Env} {Φ : D → MM → Prop} (R : α → β → Prop) (m : MM)
    (hg : ∀ x (m' : MM) (Θ : D → MM → Prop), m'.s = m.s → (∀ y, R x y → Θ (out y) m') → g (inj x) ρ m' (fun ρ1 m1 => m1 = m' ∧ te ρ1 m' Θ XF)) :
    ∀ (xs : List α) (acc : List D), acc.length + xs.length ≤ LIM → (∀ ys, All2 R xs ys → Φ (.hnd m.M.length) (m.push (.lst (acc ++ ys.map out)))) → lcWM g dYes te ρ Φ (xs.map inj) acc m
  | [], acc, _, h => by
    have z := h [] .nil
    rw [List.map_nil, List.append_nil] at z
    exact z
  | x :: xs, acc, hl, h => by
    rw [List.length_cons] at hl
    have z := hg x (m.push (.lst acc)) (fun y m3 => m3 = m.push (.lst acc) ∧ acc.length < LIM ∧ lcWM g dYes te ρ Φ (xs.map inj) (acc ++ [y]) m) rfl (fun y hy => ⟨rfl, by omega, lcWM_any R m hg xs (acc ++ [out y]) (by rw [List.length_append, List.length_singleton]; omega) fun ys hys => by
      have q := h (y :: ys) (.cons hy hys)
      rw [List.map_cons] at q
      rw [List.append_assoc]
      exact q⟩)
    have key : (fun (ρ1 : Dl.Env) (m1 : MM) => m1 = m.push (.lst acc) ∧ te ρ1 (m.push (.lst acc)) (fun y m3 => m3 = m.push (.lst acc) ∧ acc.length < LIM ∧ lcWM g dYes te ρ Φ (xs.map inj) (acc ++ [y]) m) XF)
        = (fun ρ1 m1 => m1 = m.push (.lst acc) ∧ dYes ρ1 (m.push (.lst acc)) (fun b m2 => m2 = m.push (.lst acc) ∧ if b = true then te ρ1 (m.push (.lst acc)) (fun y m3 => m3 = m.push (.lst acc) ∧ acc.length < LIM ∧ lcWM g dYes te ρ Φ (xs.map inj) (acc ++ [y]) m) XF
          else lcWM g dYes te ρ Φ (xs.map inj) acc m) XF) := by
      funext ρ1 m1
      unfold dYes
      simp
    rw [key] at z
    exact z
/-! ### polynomials by any values -/
theorem S_one {f : Nat → Int} {i : Nat} (h : ∀ k, k ≠ i → f k = 0) : ∀ n : Nat, S n f = if i < n then f i else 0
  | 0 => rfl
  | n + 1 => by
    show S n f + f n = _
    rw [S_one h n]
    by_cases z : i < n
    · rw [if_pos z, if_pos (by omega), h n (by omega)]; omega
    · rw [if_neg z]
      by_cases e : n = i
      · subst e; rw [if_pos (by omega)]; omega
      · rw [if_neg (by omega), h n e]; omega
/-! ### cubes -/
def ptStep (p : Int) (t : List Int) (x : Int) : List Int := t.map (fun e => (1 - x) * e % p) ++ t.map (fun e => x * e % p)
def pointT (pt : List Int) (p : Int) : List Int := pt.foldl (ptStep p) [1 % p]
def valAt (t pt : List Int) (p : Int) : Int := gi (pt.foldl (foldS p) t) 0 % p
def lineV (one two : List Int) (t p : Int) : List Int := (List.range one.length).map fun k => (gi one (k : Nat) + t * (gi two (k : Nat) - gi one (k : Nat))) % p
theorem ptStep_len {p x : Int} {t : List Int} : (ptStep p t x).length = 2 * t.length := by
  unfold ptStep
  rw [List.length_append, List.length_map, List.length_map]; omega
theorem ptFold_len (p : Int) : ∀ (pt t : List Int), (pt.foldl (ptStep p) t).length = t.length * 2 ^ pt.length
  | [], t => by simp
  | x :: r, t => by
    rw [List.foldl_cons, ptFold_len p r, ptStep_len, List.length_cons, Nat.pow_succ, Nat.mul_comm 2 t.length, Nat.mul_assoc, Nat.mul_comm 2]
theorem pointT_len {pt : List Int} {p : Int} : (pointT pt p).length = 2 ^ pt.length := by
  unfold pointT
  rw [ptFold_len, List.length_singleton, Nat.one_mul]
theorem ptStep_at {p x : Int} {s : List Int} {y b : Nat} (hy : y < s.length) (hb : b < 2) : Cg p (gi (ptStep p s x) ((y + s.length * b : Nat) : Int)) ((if b = 1 then x else 1 - x) * gi s (y : Nat)) := by
  unfold ptStep
  rw [gi_app, List.length_map]
  rcases (show b = 0 ∨ b = 1 by omega) with rfl | rfl
  · rw [Nat.mul_zero, Nat.add_zero, if_pos hy, gi_mapI hy, if_neg (by decide)]
    exact .mod
  · rw [Nat.mul_one, if_neg (by omega), show y + s.length - s.length = y by omega, gi_mapI hy, if_pos rfl]
    exact .mod
theorem ptFold_at {p : Int} : ∀ (r s : List Int) (y z : Nat), y < s.length → z < 2 ^ r.length → Cg p (gi (r.foldl (ptStep p) s) ((y + s.length * z : Nat) : Int)) (gi s (y : Nat) * wt r z)
  | [], s, y, z, hy, hz => by
    have e : z = 0 := by
      have : (2 : Nat) ^ ([] : List Int).length = 1 := rfl
      omega
    subst e
    show Cg p (gi s _) (gi s _ * 1)
    rw [Nat.mul_zero, Nat.add_zero, Int.mul_one]
    exact .refl
  | x :: r, s, y, z, hy, hz => by
    rw [List.length_cons, Nat.pow_succ] at hz
    have hb : z % 2 < 2 := Nat.mod_lt _ (by decide)
    have h1 := ptFold_at (p := p) r (ptStep p s x) (y + s.length * (z % 2)) (z / 2) (by
      rw [ptStep_len]
      have : s.length * (z % 2) ≤ s.length * 1 := Nat.mul_le_mul_left _ (by omega)
      omega) (by omega)
    have h2 := ptStep_at (p := p) (x := x) hy hb
    have e : y + s.length * (z % 2) + (ptStep p s x).length * (z / 2) = y + s.length * z := by
      rw [ptStep_len, Nat.add_assoc]
      have : s.length * (z % 2) + 2 * s.length * (z / 2) = s.length * z := by
        rw [Nat.mul_comm 2, Nat.mul_assoc, ← Nat.mul_add, Nat.mod_add_div]
      rw [this]
    rw [e] at h1
    refine h1.trans ?_
    refine (h2.mul .refl).trans (.of_eq ?_)
    show _ = gi s y * ((if z % 2 = 1 then x else 1 - x) * wt r (z / 2))
    rw [← Int.mul_assoc, Int.mul_comm (gi s y)]
theorem pointT_at {p : Int} {pt : List Int} {z : Nat} (hz : z < 2 ^ pt.length) : Cg p (gi (pointT pt p) (z : Nat)) (wt pt z) := by
  have h := ptFold_at (p := p) pt [1 % p] 0 z (by simp) hz
  rw [List.length_singleton, Nat.one_mul, Nat.zero_add] at h
  refine h.trans ?_
  have : gi [1 % p] ((0 : Nat) : Int) = 1 % p := rfl
  rw [this]
  refine (Cg.mul .mod .refl).trans (.of_eq (Int.one_mul _))
theorem lineV_len {one two : List Int} {t p : Int} : (lineV one two t p).length = one.length := by
  unfold lineV
  rw [List.length_map, List.length_range]
/-- nearness of two points -/
def nPl : List Int → List Int → Int
  | x :: xs, y :: ys => (x * y + (1 - x) * (1 - y)) * nPl xs ys
  | _, _ => 1
theorem nPl_wt : ∀ xs ys : List Int, xs.length = ys.length → S (2 ^ xs.length) (fun z => wt xs z * wt ys z) = nPl xs ys
  | [], [], _ => rfl
  | [], _ :: _, h => by simp at h
  | _ :: _, [], h => by simp at h
  | x :: xs, y :: ys, h => by
    rw [List.length_cons, Nat.pow_succ, Nat.mul_comm, S_pair]
    show _ = (x * y + (1 - x) * (1 - y)) * nPl xs ys
    rw [← nPl_wt xs ys (by simpa using h), ← S_mul]
    refine S_eq _ fun i _ => ?_
    have e2 : ∀ (a : Int) (r : List Int), wt (a :: r) (2 * i) = (1 - a) * wt r i := fun a r => by
      show (if 2 * i % 2 = 1 then a else 1 - a) * wt r (2 * i / 2) = _
      rw [if_neg (by omega), show 2 * i / 2 = i by omega]
    have e3 : ∀ (a : Int) (r : List Int), wt (a :: r) (2 * i + 1) = a * wt r i := fun a r => by
      show (if (2 * i + 1) % 2 = 1 then a else 1 - a) * wt r ((2 * i + 1) / 2) = _
      rw [if_pos (by omega), show (2 * i + 1) / 2 = i by omega]
    rw [e2, e2, e3, e3]
    grind
/-- a line's point, freed from remainders -/
def lineQ (ab : List (Int × Int)) (t : Int) : List Int := ab.map fun c => c.1 + c.2 * t
theorem lineQ_pol {p : Int} : ∀ (ab : List (Int × Int)) (z : Nat), Pol p ab.length fun t => wt (lineQ ab t) z
  | [], _ => .const 1
  | c :: ab, z => by
    have ih := lineQ_pol (p := p) ab (z / 2)
    by_cases h : z % 2 = 1
    · refine (ih.lin c.1 c.2).congr fun t => .of_eq ?_
      show (if z % 2 = 1 then c.1 + c.2 * t else 1 - (c.1 + c.2 * t)) * wt (lineQ ab t) (z / 2) = _
      rw [if_pos h]
    · refine (ih.lin (1 - c.1) (-c.2)).congr fun t => .of_eq ?_
      show (if z % 2 = 1 then c.1 + c.2 * t else 1 - (c.1 + c.2 * t)) * wt (lineQ ab t) (z / 2) = _
      rw [if_neg h]
      congr 1
      grind
theorem wt_cg {p : Int} : ∀ (xs ys : List Int) (z : Nat), All2 (Cg p) xs ys → Cg p (wt xs z) (wt ys z)
  | _, _, z, .nil => .refl
  | x :: xs, y :: ys, z, .cons h hs => by
    show Cg p ((if z % 2 = 1 then x else 1 - x) * wt xs (z / 2)) ((if z % 2 = 1 then y else 1 - y) * wt ys (z / 2))
    refine Cg.mul ?_ (wt_cg xs ys (z / 2) hs)
    split
    · exact h
    · exact Cg.sub .refl h
theorem all2_map {α β : Type} {R : Int → Int → Prop} {f g : α → Int} : ∀ (xs : List α), (∀ x, R (f x) (g x)) → All2 R (xs.map f) (xs.map g)
  | [], _ => .nil
  | x :: xs, h => .cons (h x) (all2_map (β := β) xs h)
/-! ### objects by what their fields hold -/
theorem look_put {f g : String} {v : D} : ∀ {fs : List (String × D)}, (putD f v fs).lookup g = if f = g then some v else fs.lookup g
  | [] => by
    show ([(f, v)] : List (String × D)).lookup g = _
    rw [List.lookup_cons, List.lookup_nil]
    by_cases e : f = g
    · rw [if_pos e, e, beq_self_eq_true]
    · rw [if_neg e, beq_eq_false_iff_ne.mpr (fun z => e z.symm)]
  | (k, x) :: r => by
    unfold putD
    by_cases e : k = f
    · rw [if_pos e, List.lookup_cons]
      by_cases z : f = g
      · rw [if_pos z, e, z, beq_self_eq_true]
      · rw [if_neg z, List.lookup_cons, e, beq_eq_false_iff_ne.mpr (fun w => z w.symm)]
    · rw [if_neg e, List.lookup_cons, List.lookup_cons, look_put]
      by_cases z : g = k
      · subst z
        have z : ¬ f = g := fun w => e w.symm
        simp [z]
      · rw [beq_eq_false_iff_ne.mpr z]
def keysOf (fs : List (String × D)) : List String := fs.map (·.1)
theorem keys_put {f : String} {v : D} : ∀ {fs : List (String × D)}, keysOf (putD f v fs) = if f ∈ keysOf fs then keysOf fs else keysOf fs ++ [f]
  | [] => rfl
  | (k, x) :: r => by
    unfold putD
    by_cases e : k = f
    · rw [if_pos e, if_pos (by rw [e]; exact List.mem_cons_self)]; rfl
    · rw [if_neg e]
      show k :: keysOf (putD f v r) = if f ∈ k :: keysOf r then k :: keysOf r else k :: keysOf r ++ [f]
      rw [keys_put]
      by_cases z : f ∈ keysOf r
      · rw [if_pos z, if_pos (List.mem_cons_of_mem _ z)]
      · rw [if_neg z, if_neg (fun w => by
          rcases List.mem_cons.mp w with w | w
          · exact e w.symm
          · exact z w)]; rfl
theorem nodup_len {α : Type} [DecidableEq α] : ∀ (l A : List α), l.Nodup → (∀ x ∈ l, x ∈ A) → l.length ≤ A.length
  | [], _, _, _ => Nat.zero_le _
  | x :: l, A, h, s => by
    have hx := s x List.mem_cons_self
    have nd := List.nodup_cons.mp h
    have z := nodup_len l (A.erase x) nd.2 (fun y hy => (List.mem_erase_of_ne (fun e => nd.1 (by rw [← e]; exact hy))).mpr (s y (List.mem_cons_of_mem _ hy)))
    rw [List.length_erase_of_mem hx] at z
    have := List.length_pos_of_mem hx
    rw [List.length_cons]; omega
structure KeysOK (A : List String) (fs : List (String × D)) : Prop where
  nd : (keysOf fs).Nodup
  sub : ∀ x ∈ keysOf fs, x ∈ A
  few : A.length ≤ 100
theorem KeysOK.lt {A : List String} {fs : List (String × D)} (h : KeysOK A fs) : fs.length < 1000 := by
  have z := nodup_len _ A h.nd h.sub
  have := h.few
  unfold keysOf at z
  rw [List.length_map] at z
  omega
theorem KeysOK.put {A : List String} {fs : List (String × D)} {f : String} {v : D} (h : KeysOK A fs) (hf : f ∈ A) : KeysOK A (putD f v fs) := by
  refine ⟨?_, fun x hx => ?_, h.few⟩
  · rw [keys_put]
    split
    · exact h.nd
    · rename_i z
      rw [List.nodup_append]
      refine ⟨h.nd, by simp, fun a ha b hb e => z ?_⟩
      rw [List.mem_singleton] at hb
      rw [← hb, ← e]; exact ha
  · rw [keys_put] at hx
    split at hx
    · exact h.sub x hx
    · rcases List.mem_append.mp hx with z | z
      · exact h.sub x z
      · rw [List.mem_singleton.mp z]; exact hf
theorem KeysOK.nil {A : List String} (h : A.length ≤ 100) : KeysOK A [] := ⟨List.nodup_nil, fun _ h => (by cases h), h⟩
/-! ### the honest answerer's steps -/
structure WG where
  a : Int
  b : Int
  c : Int
  x : Int
  y : Int
def wgD (g : WG) : D := .tup [.int g.a, .int g.b, .int g.c, .int g.x, .int g.y]
def wgOK (p : Int) (n : Nat) (g : WG) : Prop := (0 ≤ g.a ∧ g.a < p) ∧ (0 ≤ g.b ∧ g.b < p) ∧ (0 ≤ g.c ∧ g.c < p) ∧ (0 ≤ g.x ∧ g.x < (n : Int)) ∧ (0 ≤ g.y ∧ g.y < (n : Int))
def wgt (p w : Int) : Gate → WG
  | .lin a x b y => ⟨a * w % p, b * w % p, 0, x, y⟩
  | .mul c x y => ⟨0, 0, c * w % p, x, y⟩
def wgts (p : Int) (l : List Gate) (ws : List Int) : List WG := (l.zip ws).map fun gw => wgt p gw.2 gw.1
def gsum (p : Int) (gs : List WG) (cols : List Int) : Int := (gs.map fun g => g.a * gi cols g.x + g.b * gi cols g.y + g.c * gi cols g.x % p * gi cols g.y).sum % p
def atN (t : List Int) (k : Nat) (z : Int) : Int := gi t (2 * (k : Nat)) + z * (gi t (2 * (k : Nat) + 1) - gi t (2 * (k : Nat)))
/-! ### the honest answerer -/
structure AS where
  c : Cir
  T : List (List Int)
  b : Nat
  steps : Int
  layer : Nat
  round : Nat
  wide : Nat
  gates : List WG
  near : List Int
  cols : List (List Int)
  first : List Int
  second : List Int
  share : Int
  below : List Int
  fac : List Int
  rest : List Int
  left : List Int
def ansKeys : List String := ["circuit", "tables", "bits", "p", "steps", "layer", "round", "wide", "gates", "near", "columns", "first", "second", "share", "below", "factors", "rest", "left"]
class Fl_Answerer (fl : String → List String) : Prop where
  circuit : (fl "circuit").contains "Answerer" = true
  tables : (fl "tables").contains "Answerer" = true
  bits : (fl "bits").contains "Answerer" = true
  p : (fl "p").contains "Answerer" = true
  steps : (fl "steps").contains "Answerer" = true
  layer : (fl "layer").contains "Answerer" = true
  round : (fl "round").contains "Answerer" = true
  wide : (fl "wide").contains "Answerer" = true
  gates : (fl "gates").contains "Answerer" = true
  near : (fl "near").contains "Answerer" = true
  columns : (fl "columns").contains "Answerer" = true
  first : (fl "first").contains "Answerer" = true
  second : (fl "second").contains "Answerer" = true
  share : (fl "share").contains "Answerer" = true
  below : (fl "below").contains "Answerer" = true
  factors : (fl "factors").contains "Answerer" = true
  rest : (fl "rest").contains "Answerer" = true
  left : (fl "left").contains "Answerer" = true
/-- a method of this name is no field -/
def PlF (fs : List (String × D)) : Prop := ∀ x ∈ fs, plD x.2 = true
theorem PlF.put {f : String} {v : D} (hv : plD v = true) : ∀ {fs : List (String × D)}, PlF fs → PlF (putD f v fs)
  | [], _ => fun x hx => by rw [List.mem_singleton.mp hx]; exact hv
  | (k, y) :: r, h => fun x hx => by
    unfold putD at hx
    by_cases e : k = f
    · rw [if_pos e] at hx
      rcases List.mem_cons.mp hx with z | z
      · rw [z]; exact hv
      · exact h x (List.mem_cons_of_mem _ z)
    · rw [if_neg e] at hx
      rcases List.mem_cons.mp hx with z | z
      · rw [z]; exact h (k, y) List.mem_cons_self
      · exact PlF.put hv (fun w hw => h w (List.mem_cons_of_mem _ hw)) x z
theorem PlF.cl {n : Nat} : ∀ {fs : List (String × D)}, PlF fs → clF n fs = true
  | [], _ => rfl
  | (k, y) :: r, h => by
    show (clD n y && clF n r) = true
    rw [clD_pl y (h (k, y) List.mem_cons_self), PlF.cl fun w hw => h w (List.mem_cons_of_mem _ hw)]; rfl
structure A0 (fs : List (String × D)) (s : AS) : Prop where
  k : KeysOK ansKeys fs
  pl : PlF fs
  circuit : fs.lookup "circuit" = some (cD s.c)
  tables : fs.lookup "tables" = some (tabL s.T)
  bits : fs.lookup "bits" = some (.int (s.b : Nat))
  p : fs.lookup "p" = some (.int s.c.p)
  steps : fs.lookup "steps" = some (.int s.steps)
structure A1 (fs : List (String × D)) (s : AS) : Prop extends A0 fs s where
  layer : fs.lookup "layer" = some (.int (s.layer : Nat))
  round : fs.lookup "round" = some (.int (s.round : Nat))
  wide : fs.lookup "wide" = some (.int (s.wide : Nat))
  gates : fs.lookup "gates" = some (.lst (s.gates.map wgD))
  near : fs.lookup "near" = some (.lst (s.near.map D.int))
  columns : fs.lookup "columns" = some (tabL s.cols)
  first : fs.lookup "first" = some (.lst (s.first.map D.int))
  second : fs.lookup "second" = some (.lst (s.second.map D.int))
structure A2 (fs : List (String × D)) (s : AS) : Prop extends A1 fs s where
  share : fs.lookup "share" = some (.int s.share)
  below : fs.lookup "below" = some (.lst (s.below.map D.int))
  factors : fs.lookup "factors" = some (.lst (s.fac.map D.int))
  rest : fs.lookup "rest" = some (.lst (s.rest.map D.int))
  left : fs.lookup "left" = some (.lst (s.left.map D.int))
def ft1 (p : Int) (below : List Int) (gs : List WG) (f : List Int) : List Int := gs.foldl (fun f g => f.set g.x.toNat ((gi f g.x + g.a + g.c * gi below g.y) % p)) f
def rs1 (p : Int) (below : List Int) (gs : List WG) (f : List Int) : List Int := gs.foldl (fun f g => f.set g.x.toNat ((gi f g.x + g.b * gi below g.y) % p)) f
def ft2 (p : Int) (w : List Int) (v : Int) (gs : List WG) (f : List Int) : List Int := gs.foldl (fun f g => f.set g.y.toNat ((gi f g.y + gi w g.x * (g.b + g.c * v)) % p)) f
def rs2 (p : Int) (w : List Int) (v : Int) (gs : List WG) (f : List Int) : List Int := gs.foldl (fun f g => f.set g.y.toNat ((gi f g.y + gi w g.x * g.a % p * v) % p)) f
def zer (n : Nat) : List Int := List.replicate n 0
def turn1 (s : AS) : AS := if s.round = s.b then { s with share := gi s.near 0, below := s.cols.map fun c => gi c 0, fac := ft1 s.c.p (s.cols.map fun c => gi c 0) s.gates (zer s.cols.length), rest := rs1 s.c.p (s.cols.map fun c => gi c 0) s.gates (zer s.cols.length), left := s.cols.map fun c => gi c 0, steps := s.steps + (s.gates.length : Nat) } else s
def turn2 (s : AS) : AS := if s.round = s.b + s.wide then { s with fac := ft2 s.c.p (pointT s.first s.c.p) (gi s.left 0) s.gates (zer s.below.length), rest := rs2 s.c.p (pointT s.first s.c.p) (gi s.left 0) s.gates (zer s.below.length), left := s.below, steps := s.steps + (s.gates.length : Nat) } else s
def turnF (s : AS) : AS := turn2 (turn1 s)
def beginF (s : AS) (layer : Nat) (g : List Int) : AS := turnF { s with layer := layer, round := 0, wide := (gi s.c.ws ((layer + 1 : Nat) : Int)).toNat, gates := wgts s.c.p (s.c.ls.getD layer []) (pointT (g.drop s.b) s.c.p), near := pointT (g.take s.b) s.c.p, cols := (List.range (colsN s.c (layer + 1))).map (fun k => ((s.T.getD (layer + 1) []).drop (2 ^ s.b * k)).take (2 ^ s.b)), first := [], second := [] }
def midF (s : AS) (z : Int) : AS := if s.round < s.b then { s with near := foldS s.c.p s.near z, cols := s.cols.map fun c => foldS s.c.p c z }
  else if s.round < s.b + 2 * s.wide then { s with fac := foldS s.c.p s.fac z, rest := foldS s.c.p s.rest z, left := foldS s.c.p s.left z, first := if s.round < s.b + s.wide then s.first ++ [z] else s.first, second := if s.round < s.b + s.wide then s.second else s.second ++ [z] } else s
def throwF (s : AS) (z : Int) : AS := turnF { midF s z with round := s.round + 1 }
def rowV (s : AS) (t : Int) : Int := (S (s.near.length / 2) fun k => atN s.near k t % s.c.p * gsum s.c.p s.gates (s.cols.map fun c => atN c k t % s.c.p)) % s.c.p
def colV (s : AS) (t : Int) : Int := (S (s.left.length / 2) fun k => atN s.fac k t * atN s.left k t + atN s.rest k t) * s.share % s.c.p
def rowSt (s : AS) : Int := ((s.near.length / 2 : Nat) : Int) * ((s.gates.length : Nat) + (s.cols.length : Nat))
def colSt (s : AS) : Int := ((s.left.length / 2 : Nat) : Int)
def polyF (s : AS) : List Int := if s.round < s.b then (List.range 4).map fun t : Nat => rowV s (t : Nat) else (List.range 3).map fun t : Nat => colV s (t : Nat)
def polyS (s : AS) : AS := { s with steps := s.steps + if s.round < s.b then 4 * rowSt s else 3 * colSt s }
def lineF (s : AS) : List Int := (List.range (s.first.length + 1)).map fun t : Nat => valAt s.below (lineV s.first s.second (t : Nat) s.c.p) s.c.p
/-- a state that the methods can take -/
structure V1 (s : AS) : Prop where
  pm : PM s.c.p
  b3 : s.b ≤ 10
  w3 : s.wide ≤ 10
  g : ∀ g ∈ s.gates, wgOK s.c.p (2 ^ s.wide) g
  gl : s.gates.length ≤ 100000
  near : InP s.c.p s.near
  nl : s.near.length = 2 ^ (s.b - s.round)
  cl : s.cols.length = 2 ^ s.wide
  col : ∀ c ∈ s.cols, InP s.c.p c ∧ c.length = 2 ^ (s.b - s.round)
  f : InP s.c.p s.first
  fl : s.first.length = min (s.round - s.b) s.wide
  sn : InP s.c.p s.second
  sl : s.second.length = min (s.round - s.b - s.wide) s.wide
def leftP (s : AS) : Nat := if s.round ≤ s.b + s.wide then 2 ^ (s.wide - (s.round - s.b)) else 2 ^ (s.wide - (s.round - s.b - s.wide))
def leftL (s : AS) : Nat := if s.round < s.b + s.wide then 2 ^ (s.wide - (s.round - s.b)) else 2 ^ (s.wide - (s.round - s.b - s.wide))
structure V2 (s : AS) (L : Nat) : Prop where
  share : 0 ≤ s.share ∧ s.share < s.c.p
  below : InP s.c.p s.below
  bl : s.below.length = 2 ^ s.wide
  fac : InP s.c.p s.fac
  facl : s.fac.length = L
  rest : InP s.c.p s.rest
  restl : s.rest.length = L
  left : InP s.c.p s.left
  leftl : s.left.length = L
set_option hygiene false in
local macro_rules | `(tactic| walk_at "an") => `(tactic| (walk_at "dx"; (try simp only [dgTupG, dgsCons, dgsNil, dgFld, asT, dVar, List.length_cons, List.length_nil, List.getElem?_cons_zero, ob, obL, hk, moI_ins, Fl_Answerer.circuit, Fl_Answerer.tables, Fl_Answerer.bits, Fl_Answerer.p, Fl_Answerer.steps, Fl_Answerer.layer, Fl_Answerer.round, Fl_Answerer.wide, Fl_Answerer.gates, Fl_Answerer.near, Fl_Answerer.columns, Fl_Answerer.first, Fl_Answerer.second, Fl_Answerer.share, Fl_Answerer.below, Fl_Answerer.factors, Fl_Answerer.rest, Fl_Answerer.left,
  List.getElem?_set_self, List.set_set, List.length_set, look_put, String.reduceEq, reduceIte, exists_eq_left', Option.some.injEq, true_and, and_true])))

theorem getLt {M : List MO} {k : Nat} {o : MO} (h : M[k]? = some o) : k < M.length := by
  rcases Nat.lt_or_ge k M.length with z | z
  · exact z
  · rw [List.getElem?_eq_none z] at h; cases h
theorem two_half {n : Nat} (h : 0 < n) : 2 ^ n / 2 = 2 ^ (n - 1) := by
  obtain ⟨e, rfl⟩ : ∃ e, n = e + 1 := ⟨n - 1, by omega⟩
  rw [Nat.pow_succ, Nat.mul_div_cancel _ (by decide)]; rfl
/-- the object with other steps -/
def stD (st : Int) (fs : List (String × D)) : MO := .ins "Answerer" (putD "steps" (.int st) fs)
theorem st_lookup {st : Int} {fs : List (String × D)} {f : String} (h : f ≠ "steps") : (putD "steps" (.int st) fs).lookup f = fs.lookup f := by rw [look_put, if_neg (fun z => h z.symm)]
/-- other steps change no other field -/
theorem A0.st {fs : List (String × D)} {s : AS} (h : A0 fs s) (st : Int) : A0 (putD "steps" (.int st) fs) { s with steps := st } where
  k := h.k.put (by decide)
  pl := h.pl.put rfl
  circuit := (st_lookup (by decide)).trans h.circuit
  tables := (st_lookup (by decide)).trans h.tables
  bits := (st_lookup (by decide)).trans h.bits
  p := (st_lookup (by decide)).trans h.p
  steps := by rw [look_put, if_pos rfl]
theorem A1.st {fs : List (String × D)} {s : AS} (h : A1 fs s) (st : Int) : A1 (putD "steps" (.int st) fs) { s with steps := st } where
  toA0 := h.toA0.st st
  layer := (st_lookup (by decide)).trans h.layer
  round := (st_lookup (by decide)).trans h.round
  wide := (st_lookup (by decide)).trans h.wide
  gates := (st_lookup (by decide)).trans h.gates
  near := (st_lookup (by decide)).trans h.near
  columns := (st_lookup (by decide)).trans h.columns
  first := (st_lookup (by decide)).trans h.first
  second := (st_lookup (by decide)).trans h.second
theorem A2.st {fs : List (String × D)} {s : AS} (h : A2 fs s) (st : Int) : A2 (putD "steps" (.int st) fs) { s with steps := st } where
  toA1 := h.toA1.st st
  share := (st_lookup (by decide)).trans h.share
  below := (st_lookup (by decide)).trans h.below
  factors := (st_lookup (by decide)).trans h.factors
  rest := (st_lookup (by decide)).trans h.rest
  left := (st_lookup (by decide)).trans h.left
theorem V1.st {s : AS} (h : V1 s) (st : Int) : V1 { s with steps := st } := ⟨h.pm, h.b3, h.w3, h.g, h.gl, h.near, h.nl, h.cl, h.col, h.f, h.fl, h.sn, h.sl⟩
theorem V2.st {s : AS} {L : Nat} (h : V2 s L) (st : Int) : V2 { s with steps := st } L := ⟨h.share, h.below, h.bl, h.fac, h.facl, h.rest, h.restl, h.left, h.leftl⟩
def C_Answerer_poly : DC := fun ds m Φ _ => ∃ (k : Nat) (fs : List (String × D)) (s : AS), ds = [.hnd k] ∧ m.M[k]? = some (.ins "Answerer" fs) ∧ A1 fs s ∧ V1 s ∧ (s.b ≤ s.round → A2 fs s ∧ V2 s (leftL s)) ∧ s.round < s.b + 2 * s.wide ∧
  Φ (.lst ((polyF s).map D.int)) ⟨m.M.set k (stD (polyS s).steps fs), m.s⟩
theorem foldset_ok {α : Type} {p : Int} (hp : 2 ≤ p) (i : α → Nat) (v : List Int → α → Int) : ∀ (gs : List α) (f : List Int), InP p f → (gs.foldl (fun f g => f.set (i g) (v f g % p)) f).length = f.length ∧ InP p (gs.foldl (fun f g => f.set (i g) (v f g % p)) f)
  | [], f, h => ⟨rfl, h⟩
  | g :: gs, f, h => by
    have z := foldset_ok hp i v gs (f.set (i g) (v f g % p)) (fun x hx => by
      rcases List.mem_or_eq_of_mem_set hx with z | z
      · exact h x z
      · rw [z]; exact mod_in hp)
    rw [List.length_set] at z
    exact z
theorem zer_in {p : Int} (hp : 2 ≤ p) {n : Nat} : InP p (zer n) := fun x hx => by
  rw [List.eq_of_mem_replicate hx]; omega
theorem zer_len {n : Nat} : (zer n).length = n := List.length_replicate
theorem turn1_r (s : AS) : (turn1 s).round = s.round ∧ (turn1 s).b = s.b ∧ (turn1 s).wide = s.wide ∧ (turn1 s).c = s.c := by
  unfold turn1; split <;> exact ⟨rfl, rfl, rfl, rfl⟩
theorem turn2_r (s : AS) : (turn2 s).round = s.round ∧ (turn2 s).b = s.b ∧ (turn2 s).wide = s.wide ∧ (turn2 s).c = s.c := by
  unfold turn2; split <;> exact ⟨rfl, rfl, rfl, rfl⟩
theorem turnF_r (s : AS) : (turnF s).round = s.round ∧ (turnF s).b = s.b ∧ (turnF s).wide = s.wide ∧ (turnF s).c = s.c := by
  have h1 := turn1_r s
  have h2 := turn2_r (turn1 s)
  exact ⟨h2.1.trans h1.1, h2.2.1.trans h1.2.1, h2.2.2.1.trans h1.2.2.1, h2.2.2.2.trans h1.2.2.2⟩
theorem turn1_v1 {s : AS} (h : V1 s) : V1 (turn1 s) := by
  unfold turn1; split
  · exact ⟨h.pm, h.b3, h.w3, h.g, h.gl, h.near, h.nl, h.cl, h.col, h.f, h.fl, h.sn, h.sl⟩
  · exact h
theorem turn2_v1 {s : AS} (h : V1 s) : V1 (turn2 s) := by
  unfold turn2; split
  · exact ⟨h.pm, h.b3, h.w3, h.g, h.gl, h.near, h.nl, h.cl, h.col, h.f, h.fl, h.sn, h.sl⟩
  · exact h
theorem turn1_v2 {s : AS} (h : V1 s) (e : s.round = s.b) : V2 (turn1 s) (2 ^ s.wide) := by
  have hp1 := h.pm.1
  have nl := h.nl
  rw [e, Nat.sub_self, Nat.pow_zero] at nl
  have bin : InP s.c.p (s.cols.map fun c => gi c 0) := fun x hx => by
    obtain ⟨c, hc, rfl⟩ := List.mem_map.mp hx
    have z := h.col c hc
    rw [e, Nat.sub_self, Nat.pow_zero] at z
    exact z.1.gN (i := 0) (by omega)
  have bl : (s.cols.map fun c => gi c 0).length = 2 ^ s.wide := by rw [List.length_map, h.cl]
  have k1 := foldset_ok hp1 (fun g : WG => g.x.toNat) (fun f g => gi f g.x + g.a + g.c * gi (s.cols.map fun c => gi c 0) g.y) s.gates (zer s.cols.length) (zer_in hp1)
  have k2 := foldset_ok hp1 (fun g : WG => g.x.toNat) (fun f g => gi f g.x + g.b * gi (s.cols.map fun c => gi c 0) g.y) s.gates (zer s.cols.length) (zer_in hp1)
  rw [zer_len, h.cl] at k1 k2
  unfold turn1
  rw [if_pos e]
  exact ⟨h.near.gN (i := 0) (by omega), bin, bl, by show InP _ (ft1 _ _ _ (zer s.cols.length)); rw [h.cl]; exact k1.2, by show (ft1 _ _ _ _).length = _; rw [h.cl]; exact k1.1, by show InP _ (rs1 _ _ _ (zer s.cols.length)); rw [h.cl]; exact k2.2, by show (rs1 _ _ _ _).length = _; rw [h.cl]; exact k2.1, bin, bl⟩
theorem A1.same {fs : List (String × D)} {s s' : AS} (h : A1 fs s) (e : (s'.c, s'.T, s'.b, s'.steps, s'.layer, s'.round, s'.wide, s'.gates, s'.near, s'.cols, s'.first, s'.second) = (s.c, s.T, s.b, s.steps, s.layer, s.round, s.wide, s.gates, s.near, s.cols, s.first, s.second)) : A1 fs s' := by
  simp only [Prod.mk.injEq] at e
  obtain ⟨e1, e2, e3, e4, e5, e6, e7, e8, e9, e10, e11, e12⟩ := e
  exact ⟨⟨h.k, h.pl, by rw [e1]; exact h.circuit, by rw [e2]; exact h.tables, by rw [e3]; exact h.bits, by rw [e1]; exact h.p, by rw [e4]; exact h.steps⟩, by rw [e5]; exact h.layer, by rw [e6]; exact h.round, by rw [e7]; exact h.wide, by rw [e8]; exact h.gates, by rw [e9]; exact h.near, by rw [e10]; exact h.columns, by rw [e11]; exact h.first, by rw [e12]; exact h.second⟩
theorem V1.same {s s' : AS} (h : V1 s) (e : (s'.c, s'.b, s'.round, s'.wide, s'.gates, s'.near, s'.cols, s'.first, s'.second) = (s.c, s.b, s.round, s.wide, s.gates, s.near, s.cols, s.first, s.second)) : V1 s' := by
  simp only [Prod.mk.injEq] at e
  obtain ⟨e1, e3, e6, e7, e8, e9, e10, e11, e12⟩ := e
  exact ⟨by rw [e1]; exact h.pm, by rw [e3]; exact h.b3, by rw [e7]; exact h.w3, by rw [e8, e1, e7]; exact h.g, by rw [e8]; exact h.gl, by rw [e1, e9]; exact h.near, by rw [e9, e3, e6]; exact h.nl, by rw [e10, e7]; exact h.cl, by rw [e10, e1, e3, e6]; exact h.col, by rw [e1, e11]; exact h.f, by rw [e11, e6, e3, e7]; exact h.fl, by rw [e1, e12]; exact h.sn, by rw [e12, e6, e3, e7]; exact h.sl⟩
/-- the state that stands at k, as the methods need it -/
structure AnsOK (fs : List (String × D)) (s : AS) : Prop where
  a1 : A1 fs s
  v1 : V1 s
  two : s.b ≤ s.round → A2 fs s ∧ V2 s (leftL s)
def C_Answerer_throw : DC := fun ds m Φ _ => ∃ (k : Nat) (fs : List (String × D)) (s : AS) (z : Int), ds = [.hnd k, .int z] ∧ m.M[k]? = some (.ins "Answerer" fs) ∧ AnsOK fs s ∧ 0 ≤ z ∧ z < s.c.p ∧
  ∀ fs', AnsOK fs' (throwF s z) → Φ .non ⟨m.M.set k (.ins "Answerer" fs'), m.s⟩
/-- what the answerer is made of -/
structure B0 (s : AS) (most wide : Nat) : Prop where
  c : CirOK s.c most wide
  m4 : most ≤ 4
  w3 : wide ≤ 3
  b3 : s.b ≤ 3
  tl : s.T.length = s.c.ls.length + 1
  t : ∀ i ≤ s.c.ls.length, InP s.c.p (s.T.getD i []) ∧ (s.T.getD i []).length = colsN s.c i * 2 ^ s.b
theorem B0.cols {s : AS} {most wide : Nat} (h : B0 s most wide) {i : Nat} (hi : i ≤ s.c.ls.length) : 1 ≤ colsN s.c i ∧ colsN s.c i ≤ 8 := by
  have hwl := h.c.wl
  have z := pow_le8 (h.c.w0 _ (gi_mem (show i < s.c.ws.length by omega))) h.w3
  have := colsN_eq (c := s.c) (i := i)
  unfold colsC at this
  omega
theorem wgts_ok {p : Int} {n : Nat} (hp : 2 ≤ p) {l : List Gate} {ws : List Int} (h : ∀ g ∈ l, gOK p (n : Nat) g) : ∀ g ∈ wgts p l ws, wgOK p n g := fun g hg => by
  obtain ⟨⟨a, w⟩, hm, rfl⟩ := List.mem_map.mp hg
  have z := h a (List.of_mem_zip hm).1
  cases a with
  | lin a x b y =>
    obtain ⟨ha, hx, hb, hy⟩ := z
    exact ⟨mod_in hp, mod_in hp, ⟨Int.le_refl 0, by show (0 : Int) < p; omega⟩, hx, hy⟩
  | mul c x y =>
    obtain ⟨ha, hx, hy⟩ := z
    exact ⟨⟨Int.le_refl 0, by show (0 : Int) < p; omega⟩, ⟨Int.le_refl 0, by show (0 : Int) < p; omega⟩, mod_in hp, hx, hy⟩
def C_Answerer_begin : DC := fun ds m Φ _ => ∃ (k : Nat) (fs : List (String × D)) (s : AS) (layer most wide : Nat) (g : List Int), ds = [.hnd k, .int (layer : Nat), .lst (g.map D.int)] ∧ m.M[k]? = some (.ins "Answerer" fs) ∧ A0 fs s ∧ B0 s most wide ∧ layer < s.c.ls.length ∧ InP s.c.p g ∧ (g.length : Int) = s.b + gi s.c.ws (layer : Nat) ∧
  ∀ fs', AnsOK fs' (beginF s layer g) → Φ .non ⟨m.M.set k (.ins "Answerer" fs'), m.s⟩
/-- the answerer, new -/
def s0 (c : Cir) (R : List (List Int)) (b : Nat) : AS := ⟨c, tables c R, b, 0, 0, 0, 0, [], [], [], [], [], 0, [], [], [], []⟩
def C_Answerer_line : DC := fun ds m Φ _ => ∃ (k : Nat) (fs : List (String × D)) (s : AS), ds = [.hnd k] ∧ m.M[k]? = some (.ins "Answerer" fs) ∧ AnsOK fs s ∧ s.b + 2 * s.wide ≤ s.round ∧ Φ (.lst ((lineF s).map D.int)) m
/-! ### what stays as it is -/
structure Fix (s s' : AS) : Prop where
  c : s'.c = s.c
  T : s'.T = s.T
  b : s'.b = s.b
theorem Fix.trans {a b c : AS} (h : Fix a b) (g : Fix b c) : Fix a c := ⟨g.c.trans h.c, g.T.trans h.T, g.b.trans h.b⟩
theorem fix_turn (s : AS) : Fix s (turnF s) := by
  have h1 : Fix s (turn1 s) := by unfold turn1; split <;> exact ⟨rfl, rfl, rfl⟩
  have h2 : ∀ s, Fix s (turn2 s) := fun s => by unfold turn2; split <;> exact ⟨rfl, rfl, rfl⟩
  exact h1.trans (h2 _)
theorem mid_r (s : AS) (z : Int) : (midF s z).round = s.round ∧ (midF s z).wide = s.wide ∧ Fix s (midF s z) := by
  unfold midF
  split
  · exact ⟨rfl, rfl, rfl, rfl, rfl⟩
  · split
    · exact ⟨rfl, rfl, rfl, rfl, rfl⟩
    · exact ⟨rfl, rfl, rfl, rfl, rfl⟩
theorem throw_r (s : AS) (z : Int) : (throwF s z).round = s.round + 1 ∧ (throwF s z).wide = s.wide ∧ Fix s (throwF s z) := by
  have h1 := mid_r s z
  have h2 := turnF_r { midF s z with round := s.round + 1 }
  exact ⟨h2.1, h2.2.2.1.trans h1.2.1, h1.2.2.trans (Fix.trans (b := { midF s z with round := s.round + 1 }) ⟨rfl, rfl, rfl⟩ (fix_turn _))⟩
theorem AnsOK.a0 {fs : List (String × D)} {s : AS} (h : AnsOK fs s) : A0 fs s := h.a1.toA0
theorem AnsOK.poly {fs : List (String × D)} {s : AS} (h : AnsOK fs s) : AnsOK (putD "steps" (.int (polyS s).steps) fs) (polyS s) := ⟨h.a1.st _, h.v1.st _, fun e => by
  obtain ⟨x, y⟩ := h.two e
  exact ⟨x.st _, y.st _⟩⟩
/-! ### a layer's answers, all answers -/
/-- the widths as numbers -/
def wN (c : Cir) (i : Nat) : Nat := (gi c.ws (i : Nat)).toNat
def needN (c : Cir) (b : Nat) : Nat → Nat → Nat
  | _, 0 => 0
  | l, n + 1 => (b + 2 * wN c (l + 1) + 1) + needN c b (l + 1) n
def ansD (a : List (List Int) × List Int) : D := .tup [tabL a.1, .lst (a.2.map D.int)]
theorem wN_eq {c : Cir} {most wide : Nat} (hc : CirOK c most wide) {i : Nat} (h : i ≤ c.ls.length) : ((wN c i : Nat) : Int) = gi c.ws (i : Nat) := by
  have hwl := hc.wl
  have := hc.w0 _ (gi_mem (show i < c.ws.length by omega))
  unfold wN
  omega
/-! ### the states in themselves -/
structure OKs (s : AS) : Prop where
  v1 : V1 s
  v2 : s.b ≤ s.round → V2 s (leftL s)
theorem V2.same {s s' : AS} {L : Nat} (h : V2 s L) (e : (s'.c, s'.wide, s'.share, s'.below, s'.fac, s'.rest, s'.left) = (s.c, s.wide, s.share, s.below, s.fac, s.rest, s.left)) : V2 s' L := by
  simp only [Prod.mk.injEq] at e
  obtain ⟨e1, e2, e3, e4, e5, e6, e7⟩ := e
  exact ⟨by rw [e3, e1]; exact h.share, by rw [e4, e1]; exact h.below, by rw [e4, e2]; exact h.bl, by rw [e5, e1]; exact h.fac, by rw [e5]; exact h.facl, by rw [e6, e1]; exact h.rest, by rw [e6]; exact h.restl, by rw [e7, e1]; exact h.left, by rw [e7]; exact h.leftl⟩
theorem turn2_v2 {s : AS} (v1 : V1 s) (v2 : V2 s (leftP s)) (h : s.b ≤ s.round) : V2 (turn2 s) (leftL (turn2 s)) := by
  obtain ⟨q1, q2, q3, q4⟩ := turn2_r s
  have hp1 := v1.pm.1
  have hL : ∀ t : AS, t.round = s.round → t.b = s.b → t.wide = s.wide → leftL t = leftL s := fun t e1 e2 e3 => by unfold leftL; rw [e1, e2, e3]
  rw [hL _ q1 q2 q3]
  by_cases e : s.round = s.b + s.wide
  · have t2 : turn2 s = { s with fac := ft2 s.c.p (pointT s.first s.c.p) (gi s.left 0) s.gates (zer s.below.length), rest := rs2 s.c.p (pointT s.first s.c.p) (gi s.left 0) s.gates (zer s.below.length), left := s.below, steps := s.steps + (s.gates.length : Nat) } := if_pos e
    have k1 := foldset_ok hp1 (fun g : WG => g.y.toNat) (fun f g => gi f g.y + gi (pointT s.first s.c.p) g.x * (g.b + g.c * gi s.left 0)) s.gates (zer s.below.length) (zer_in hp1)
    have k2 := foldset_ok hp1 (fun g : WG => g.y.toNat) (fun f g => gi f g.y + gi (pointT s.first s.c.p) g.x * g.a % s.c.p * gi s.left 0) s.gates (zer s.below.length) (zer_in hp1)
    rw [zer_len, v2.bl] at k1 k2
    have hL : leftL s = 2 ^ s.wide := by
      unfold leftL
      rw [if_neg (by omega), show s.wide - (s.round - s.b - s.wide) = s.wide by omega]
    rw [t2]
    refine ⟨v2.share, v2.below, v2.bl, ?_, ?_, ?_, ?_, v2.below, ?_⟩
    · show InP _ (ft2 _ _ _ _ _); rw [v2.bl]; exact k1.2
    · show (ft2 _ _ _ _ _).length = leftL s; rw [hL, v2.bl]; exact k1.1
    · show InP _ (rs2 _ _ _ _ _); rw [v2.bl]; exact k2.2
    · show (rs2 _ _ _ _ _).length = leftL s; rw [hL, v2.bl]; exact k2.1
    · show s.below.length = leftL s; rw [hL, v2.bl]
  · have t2 : turn2 s = s := if_neg e
    rw [t2]
    have : leftP s = leftL s := by
      unfold leftP leftL
      by_cases z : s.round < s.b + s.wide
      · rw [if_pos (by omega), if_pos z]
      · rw [if_neg (by omega), if_neg z]
    rw [← this]; exact v2
theorem turn_ok {s : AS} (v1 : V1 s) (v2 : s.b < s.round → V2 s (leftP s)) : OKs (turnF s) := by
  have tr := turnF_r s
  have t1r := turn1_r s
  refine ⟨turn2_v1 (turn1_v1 v1), fun h => ?_⟩
  rw [tr.1, tr.2.1] at h
  refine turn2_v2 (turn1_v1 v1) ?_ (by rw [t1r.1, t1r.2.1]; exact h)
  have hP : leftP (turn1 s) = leftP s := by unfold leftP; rw [t1r.1, t1r.2.1, t1r.2.2.1]
  rw [hP]
  by_cases e : s.round = s.b
  · have : leftP s = 2 ^ s.wide := by
      unfold leftP
      rw [if_pos (by omega), e, Nat.sub_self, Nat.sub_zero]
    rw [this]
    exact turn1_v2 v1 e
  · have t1 : turn1 s = s := if_neg e
    rw [t1]
    exact v2 (by omega)
theorem OKs.poly {s : AS} (h : OKs s) : OKs (polyS s) := ⟨h.v1.st _, fun e => (h.v2 e).st _⟩
theorem OKs.throw {s : AS} (ok : OKs s) {z : Int} (z0 : 0 ≤ z) (z1 : z < s.c.p) : OKs (throwF s z) := by
  have v1 := ok.v1
  have hp := v1.pm
  have hp1 := hp.1
  have mr := mid_r s z
  have nl := v1.nl
  have fle := v1.fl
  have sle := v1.sl
  unfold throwF
  by_cases hb : s.round < s.b
  · have em : midF s z = { s with near := foldS s.c.p s.near z, cols := s.cols.map fun c => foldS s.c.p c z } := if_pos hb
    have hh : 2 ^ (s.b - s.round) / 2 = 2 ^ (s.b - (s.round + 1)) := by rw [two_half (by omega)]; congr 1
    refine turn_ok ?_ fun h => ?_
    · rw [em]
      refine ⟨hp, v1.b3, v1.w3, v1.g, v1.gl, foldS_in hp1, ?_, ?_, fun c hc => ?_, v1.f, ?_, v1.sn, ?_⟩
      · show (foldS _ _ _).length = _
        rw [foldS_len, v1.nl]; exact hh
      · show (s.cols.map _).length = _
        rw [List.length_map, v1.cl]
      · obtain ⟨c0, h0, rfl⟩ := List.mem_map.mp hc
        exact ⟨foldS_in hp1, by rw [foldS_len, (v1.col c0 h0).2]; exact hh⟩
      · show s.first.length = min (s.round + 1 - s.b) s.wide
        omega
      · show s.second.length = min (s.round + 1 - s.b - s.wide) s.wide
        omega
    · have h : (midF s z).b < s.round + 1 := h
      rw [mr.2.2.b] at h; omega
  have v2 := ok.v2 (by omega)
  have hn0 : s.b - (s.round + 1) = s.b - s.round := by omega
  by_cases hw : s.round < s.b + 2 * s.wide
  · have em : midF s z = { s with fac := foldS s.c.p s.fac z, rest := foldS s.c.p s.rest z, left := foldS s.c.p s.left z, first := if s.round < s.b + s.wide then s.first ++ [z] else s.first, second := if s.round < s.b + s.wide then s.second else s.second ++ [z] } := by
      unfold midF; rw [if_neg hb, if_pos hw]
    have zin : ∀ xs : List Int, InP s.c.p xs → InP s.c.p (xs ++ [z]) := fun xs h x hx => by
      rcases List.mem_append.mp hx with y | y
      · exact h x y
      · rw [List.mem_singleton.mp y]; exact ⟨z0, z1⟩
    have V1a : (∀ f' s', f' = (if s.round < s.b + s.wide then s.first ++ [z] else s.first) → s' = (if s.round < s.b + s.wide then s.second else s.second ++ [z]) → InP s.c.p f' ∧ f'.length = min (s.round + 1 - s.b) s.wide ∧ InP s.c.p s' ∧ s'.length = min (s.round + 1 - s.b - s.wide) s.wide) := by
      rintro f' s' rfl rfl
      by_cases y : s.round < s.b + s.wide
      · rw [if_pos y, if_pos y]
        refine ⟨zin _ v1.f, ?_, v1.sn, by omega⟩
        rw [List.length_append]; show s.first.length + 1 = _; omega
      · rw [if_neg y, if_neg y]
        refine ⟨v1.f, by omega, zin _ v1.sn, ?_⟩
        rw [List.length_append]; show s.second.length + 1 = _; omega
    have hL1 : leftL s / 2 = leftP { midF s z with round := s.round + 1 } := by
      have e1 : leftP { midF s z with round := s.round + 1 } = if s.round + 1 ≤ s.b + s.wide then 2 ^ (s.wide - (s.round + 1 - s.b)) else 2 ^ (s.wide - (s.round + 1 - s.b - s.wide)) := by
        unfold leftP
        show (if s.round + 1 ≤ (midF s z).b + (midF s z).wide then _ else _) = _
        rw [mr.2.2.b, mr.2.1]
      rw [e1]
      unfold leftL
      by_cases y : s.round < s.b + s.wide
      · rw [if_pos y, if_pos (by omega), two_half (by omega)]; congr 1; omega
      · rw [if_neg y, if_neg (by omega), two_half (by omega)]; congr 1; omega
    refine turn_ok ?_ fun _ => ?_
    · obtain ⟨q1, q2, q3, q4⟩ := V1a _ _ rfl rfl
      rw [em]
      exact ⟨hp, v1.b3, v1.w3, v1.g, v1.gl, v1.near, by show s.near.length = 2 ^ (s.b - (s.round + 1)); rw [nl, hn0], v1.cl, fun c hc => ⟨(v1.col c hc).1, by show c.length = 2 ^ (s.b - (s.round + 1)); rw [(v1.col c hc).2, hn0]⟩, q1, q2, q3, q4⟩
    · rw [← hL1]
      rw [em]
      refine ⟨v2.share, v2.below, v2.bl, foldS_in hp1, ?_, foldS_in hp1, ?_, foldS_in hp1, ?_⟩
      · show (foldS _ _ _).length = _
        rw [foldS_len, v2.facl]
      · show (foldS _ _ _).length = _
        rw [foldS_len, v2.restl]
      · show (foldS _ _ _).length = _
        rw [foldS_len, v2.leftl]
  · have em : midF s z = s := by unfold midF; rw [if_neg hb, if_neg hw]
    rw [em]
    refine turn_ok ?_ fun _ => ?_
    · refine ⟨hp, v1.b3, v1.w3, v1.g, v1.gl, v1.near, by show s.near.length = _; rw [nl]; exact congrArg _ hn0.symm, v1.cl, fun c hc => ⟨(v1.col c hc).1, by rw [(v1.col c hc).2]; exact congrArg _ hn0.symm⟩, v1.f, ?_, v1.sn, ?_⟩
      · show s.first.length = min (s.round + 1 - s.b) s.wide
        omega
      · show s.second.length = min (s.round + 1 - s.b - s.wide) s.wide
        omega
    · have e1 : leftP { s with round := s.round + 1 } = leftL s := by
        unfold leftP leftL
        show (if s.round + 1 ≤ s.b + s.wide then 2 ^ (s.wide - (s.round + 1 - s.b)) else 2 ^ (s.wide - (s.round + 1 - s.b - s.wide))) = _
        rw [if_neg (by omega), if_neg (by omega)]
        congr 1; omega
      rw [e1]
      exact v2.same rfl
/-! ### the steps -/
/-! ### sums over corners -/
theorem S_split {F : Nat → Int} {M : Nat} : ∀ p : Nat, S (M * p) F = S p fun t => S M fun j => F (M * t + j)
  | 0 => rfl
  | p + 1 => by
    have e : ∀ a : Nat, S (M * p + a) F = S (M * p) F + S a fun j => F (M * p + j) := fun a => by
      induction a with
      | zero => show _ = _ + 0; rw [Nat.add_zero]; omega
      | succ a ih => show S (M * p + a) F + F (M * p + a) = _ + (S a _ + F (M * p + a)); rw [ih]; omega
    rw [Nat.mul_succ, e M, S_split p]
    rfl
theorem S_swap2 {F : Nat → Nat → Int} {M : Nat} : ∀ p : Nat, S p (fun t => S M fun j => F t j) = S M fun j => S p fun t => F t j
  | 0 => by
    show (0 : Int) = S M fun _ => 0
    induction M with
    | zero => rfl
    | succ M ih => show (0 : Int) = S M _ + 0; omega
  | p + 1 => by
    show S p _ + S M _ = _
    rw [S_swap2 p, ← S_add]
    rfl
theorem S_congr {f g : Nat → Int} : ∀ n : Nat, (∀ i < n, f i = g i) → S n f = S n g
  | 0, _ => rfl
  | n + 1, h => by show S n f + f n = S n g + g n; rw [S_congr n fun i hi => h i (by omega), h n (by omega)]
theorem wt_corn : ∀ (n k z : Nat), k < 2 ^ n → z < 2 ^ n → wt (corn k n) z = if z = k then 1 else 0
  | 0, k, z, hk, hz => by
    have e1 : k = 0 := by simpa using hk
    have e2 : z = 0 := by simpa using hz
    rw [if_pos (by omega)]; rfl
  | n + 1, k, z, hk, hz => by
    rw [Nat.pow_succ] at hk hz
    rw [corn_succ]
    show (if z % 2 = 1 then _ else _) * wt _ (z / 2) = _
    rw [wt_corn n (k / 2) (z / 2) (by omega) (by omega)]
    by_cases h : z = k
    · subst h
      rw [if_pos rfl, if_pos rfl]
      rcases (show z % 2 = 0 ∨ z % 2 = 1 by omega) with h | h <;> rw [h] <;> simp
    · rw [if_neg h]
      by_cases h2 : z / 2 = k / 2
      · rw [if_pos h2]
        rcases (show z % 2 = 0 ∨ z % 2 = 1 by omega) with h3 | h3
        · have : k % 2 = 1 := by omega
          rw [h3, this]; simp
        · have : k % 2 = 0 := by omega
          rw [h3, this]; simp
      · rw [if_neg h2, Int.mul_zero]
theorem corn_len {i n : Nat} : (corn i n).length = n := by unfold corn; rw [List.length_map, List.length_range]
theorem corn_app : ∀ (m i h n : Nat), i < 2 ^ m → corn (i + 2 ^ m * h) (m + n) = corn i m ++ corn h n
  | 0, i, h, n, hi => by
    have : i = 0 := by simpa using hi
    subst this
    rw [Nat.pow_zero, Nat.one_mul, Nat.zero_add, Nat.zero_add]; rfl
  | m + 1, i, h, n, hi => by
    rw [Nat.pow_succ] at hi
    rw [show m + 1 + n = (m + n) + 1 by omega, corn_succ, corn_succ, List.cons_append, Nat.pow_succ]
    have e : 2 ^ m * 2 * h = 2 * (2 ^ m * h) := by rw [Nat.mul_comm (2 ^ m) 2, Nat.mul_assoc]
    rw [e, show (i + 2 * (2 ^ m * h)) % 2 = i % 2 by omega, show (i + 2 * (2 ^ m * h)) / 2 = i / 2 + 2 ^ m * h by omega, corn_app m (i / 2) h n (by omega)]
def mle (T pt : List Int) : Int := S (2 ^ pt.length) fun z => wt pt z * gi T (z : Nat)
theorem mle_nil {T : List Int} : mle T [] = gi T 0 := by show 0 + 1 * gi T 0 = _; omega
theorem wt_lo {x : Int} {r : List Int} {i : Nat} : wt (x :: r) (2 * i) = (1 - x) * wt r i := by
  show (if 2 * i % 2 = 1 then x else 1 - x) * wt r (2 * i / 2) = _
  rw [if_neg (by omega), show 2 * i / 2 = i by omega]
theorem wt_hi {x : Int} {r : List Int} {i : Nat} : wt (x :: r) (2 * i + 1) = x * wt r i := by
  show (if (2 * i + 1) % 2 = 1 then x else 1 - x) * wt r ((2 * i + 1) / 2) = _
  rw [if_pos (by omega), show (2 * i + 1) / 2 = i by omega]
theorem mle_at {T : List Int} {x : Int} {r : List Int} : mle T (x :: r) = S (2 ^ r.length) fun i => wt r i * atN T i x := by
  unfold mle
  rw [List.length_cons, Nat.pow_succ, Nat.mul_comm, S_pair]
  refine S_congr _ fun i _ => ?_
  rw [wt_lo, wt_hi]
  unfold atN
  rw [show ((2 * i : Nat) : Int) = 2 * (i : Nat) by omega, show ((2 * i + 1 : Nat) : Int) = 2 * (i : Nat) + 1 by omega]
  grind
theorem foldS_at {p x : Int} {T : List Int} {i : Nat} (h : i < T.length / 2) : gi (foldS p T x) (i : Nat) = atN T i x % p := by
  unfold foldS
  rw [gi_range h]; rfl
theorem mle_cons {p x : Int} {T r : List Int} (h : T.length = 2 ^ (r.length + 1)) : Cg p (mle T (x :: r)) (mle (foldS p T x) r) := by
  rw [mle_at]
  unfold mle
  rw [Nat.pow_succ] at h
  refine S_cg _ fun i hi => ?_
  rw [foldS_at (by omega)]
  exact Cg.mul .refl Cg.mod.symm
theorem mle_app {p : Int} : ∀ (r s T : List Int), T.length = 2 ^ (r.length + s.length) → Cg p (mle T (r ++ s)) (mle (r.foldl (foldS p) T) s)
  | [], _, _, _ => .refl
  | x :: r, s, T, h => by
    rw [List.length_cons, show r.length + 1 + s.length = (r.length + s.length) + 1 by omega] at h
    refine (mle_cons (r := r ++ s) (by rw [List.length_append]; exact h)).trans ?_
    rw [Nat.pow_succ] at h
    exact mle_app r s _ (by rw [foldS_len]; omega)
theorem S_corn {f : Nat → Int} {i l : Nat} (hi : i < 2 ^ l) : S (2 ^ l) (fun z => wt (corn i l) z * f z) = f i := by
  rw [S_congr (g := fun z => if z = i then f i else 0) (2 ^ l) fun z hz => by
    rw [wt_corn l i z hi hz]
    by_cases e : z = i
    · rw [if_pos e, if_pos e, e]; omega
    · rw [if_neg e, if_neg e, Int.zero_mul]]
  rw [S_one (i := i) (fun k hk => if_neg hk), if_pos hi, if_pos rfl]
theorem mle_tcorn {T : List Int} {t : Int} {i l : Nat} (hi : i < 2 ^ l) : mle T (t :: corn i l) = atN T i t := by
  rw [mle_at, corn_len]
  exact S_corn (f := fun i => atN T i t) hi
theorem wt_app : ∀ (r s : List Int) (z h : Nat), z < 2 ^ r.length → wt (r ++ s) (z + 2 ^ r.length * h) = wt r z * wt s h
  | [], s, z, h, hz => by
    have : z = 0 := by simpa using hz
    subst this
    show wt s (0 + 2 ^ 0 * h) = 1 * wt s h
    rw [Nat.pow_zero, Nat.one_mul, Nat.zero_add, Int.one_mul]
  | x :: r, s, z, h, hz => by
    rw [List.length_cons, Nat.pow_succ] at hz ⊢
    have e : 2 ^ r.length * 2 * h = 2 * (2 ^ r.length * h) := by rw [Nat.mul_comm (2 ^ r.length) 2, Nat.mul_assoc]
    show (if (z + _) % 2 = 1 then x else 1 - x) * wt (r ++ s) ((z + _) / 2) = (if z % 2 = 1 then x else 1 - x) * wt r (z / 2) * wt s h
    rw [e, show (z + 2 * (2 ^ r.length * h)) % 2 = z % 2 by omega, show (z + 2 * (2 ^ r.length * h)) / 2 = z / 2 + 2 ^ r.length * h by omega, wt_app r s (z / 2) h (by omega), Int.mul_assoc]
/-- column h of a table of rows -/
def colT (B : List Int) (b h : Nat) : List Int := (B.drop (2 ^ b * h)).take (2 ^ b)
theorem colT_at {B : List Int} {b h z : Nat} (hz : z < 2 ^ b) : gi (colT B b h) (z : Nat) = gi B ((2 ^ b * h + z : Nat) : Int) := by
  unfold colT
  rw [gi_nat, gi_nat, List.getD_eq_getElem?_getD, List.getD_eq_getElem?_getD, List.getElem?_take_of_lt hz, List.getElem?_drop]
theorem mle_two {B r s : List Int} {b : Nat} (hr : r.length = b) : mle B (r ++ s) = S (2 ^ s.length) fun h => wt s h * mle (colT B b h) r := by
  subst hr
  unfold mle
  rw [List.length_append, Nat.pow_add, S_split]
  refine S_congr _ fun h _ => ?_
  rw [← S_mul]
  refine S_congr _ fun z hz => ?_
  rw [Nat.add_comm (2 ^ r.length * h) z, wt_app r s z h hz, colT_at hz, Nat.add_comm z]
  grind
theorem mle_col {B r : List Int} {b x w : Nat} (hr : r.length = b) (hx : x < 2 ^ w) : mle B (r ++ corn x w) = mle (colT B b x) r := by
  rw [mle_two hr, corn_len]
  exact S_corn (f := fun h => mle (colT B b h) r) hx
theorem mle_pointT {p : Int} {g s : List Int} (h : s.length = g.length) : Cg p (mle (pointT g p) s) (nPl g s) := by
  rw [← nPl_wt g s h.symm, ← h]
  unfold mle
  refine S_cg _ fun z hz => ?_
  rw [Int.mul_comm]
  exact Cg.mul (pointT_at (by rw [← h]; exact hz)) .refl
/-! ### the gates' sums -/
def gF (q : WG) (u v : Int) : Int := q.a * u + q.b * v + q.c * u * v
def WGsum (gs : List WG) (x y : List Int) (u v : Int) : Int := (gs.map fun q => wt x q.x.toNat * wt y q.y.toNat * gF q u v).sum
theorem sumS {α : Type} {F : α → Nat → Int} {N : Nat} (T : List α) : (T.map fun row => S N (F row)).sum = S N fun a => (T.map fun row => F row a).sum := sum_S_swap T
theorem wg_corn {gs : List WG} {w : Nat} {U V : Nat → Int} (h : ∀ q ∈ gs, q.x.toNat < 2 ^ w ∧ q.y.toNat < 2 ^ w) :
    S (2 ^ w) (fun x => S (2 ^ w) fun y => WGsum gs (corn x w) (corn y w) (U x) (V y)) = (gs.map fun q => gF q (U q.x.toNat) (V q.y.toNat)).sum := by
  unfold WGsum
  rw [S_congr (g := fun x => (gs.map fun q => wt (corn x w) q.x.toNat * gF q (U x) (V q.y.toNat)).sum) (2 ^ w) fun x hx => ?_]
  · rw [← sumS]
    congr 1
    refine List.map_congr_left fun q hq => ?_
    have hq := h q hq
    rw [S_congr (g := fun x => if x = q.x.toNat then gF q (U q.x.toNat) (V q.y.toNat) else 0) (2 ^ w) fun x hx => by
      rw [wt_corn w x _ hx hq.1]
      by_cases e : q.x.toNat = x
      · rw [if_pos e, if_pos e.symm, e]; omega
      · rw [if_neg e, if_neg (fun z => e z.symm), Int.zero_mul]]
    rw [S_one (i := q.x.toNat) (fun k hk => if_neg hk), if_pos hq.1, if_pos rfl]
  · rw [← sumS]
    congr 1
    refine List.map_congr_left fun q hq => ?_
    have hq := h q hq
    rw [S_congr (g := fun y => if y = q.y.toNat then wt (corn x w) q.x.toNat * gF q (U x) (V q.y.toNat) else 0) (2 ^ w) fun y hy => by
      rw [wt_corn w y _ hy hq.2]
      by_cases e : q.y.toNat = y
      · rw [if_pos e, if_pos e.symm, e]; grind
      · rw [if_neg e, if_neg (fun z => e z.symm)]; grind]
    rw [S_one (i := q.y.toNat) (fun k hk => if_neg hk), if_pos hq.2, if_pos rfl]
theorem wg_corn1 {gs : List WG} {w : Nat} {x : List Int} {u : Int} {V : Nat → Int} (h : ∀ q ∈ gs, q.y.toNat < 2 ^ w) :
    S (2 ^ w) (fun y => WGsum gs x (corn y w) u (V y)) = (gs.map fun q => wt x q.x.toNat * gF q u (V q.y.toNat)).sum := by
  unfold WGsum
  rw [← sumS]
  congr 1
  refine List.map_congr_left fun q hq => ?_
  have hq := h q hq
  rw [S_congr (g := fun y => if y = q.y.toNat then wt x q.x.toNat * gF q u (V q.y.toNat) else 0) (2 ^ w) fun y hy => by
    rw [wt_corn w y _ hy hq]
    by_cases e : q.y.toNat = y
    · rw [if_pos e, if_pos e.symm, e]; grind
    · rw [if_neg e, if_neg (fun z => e z.symm)]; grind]
  rw [S_one (i := q.y.toNat) (fun k hk => if_neg hk), if_pos hq, if_pos rfl]
theorem S_fun_add {f : Nat → Int} {i N : Nat} {d : Int} (hi : i < N) : S N (fun z => f z + if z = i then d else 0) = S N f + d := by
  rw [S_add]
  rw [S_one (f := fun z => if z = i then d else 0) (i := i) (fun k hk => if_neg hk), if_pos hi, if_pos rfl]
theorem mle_set {p d : Int} {f X : List Int} {i : Nat} (hi : i < 2 ^ X.length) (hf : f.length = 2 ^ X.length) : Cg p (mle (f.set i ((gi f (i : Nat) + d) % p)) X) (mle f X + wt X i * d) := by
  unfold mle
  rw [← S_fun_add (i := i) (d := wt X i * d) hi]
  refine S_cg _ fun z hz => ?_
  by_cases e : z = i
  · subst e
    rw [if_pos rfl, gi_nat, List.getD_eq_getElem?_getD, List.getElem?_set_self (by omega)]
    show Cg p (wt X z * ((gi f (z : Nat) + d) % p)) _
    refine (Cg.mul .refl Cg.mod).trans (.of_eq ?_)
    rw [Int.mul_add]
  · rw [if_neg e, gi_nat, List.getD_eq_getElem?_getD, List.getElem?_set_ne (fun z => e z.symm), ← List.getD_eq_getElem?_getD, ← gi_nat]
    exact .of_eq (by omega)
theorem mle_foldset {p : Int} {X : List Int} (i : WG → Nat) (d : WG → Int) : ∀ (gs : List WG) (f : List Int), f.length = 2 ^ X.length → (∀ q ∈ gs, i q < 2 ^ X.length) → Cg p (mle (gs.foldl (fun f g => f.set (i g) ((gi f ((i g : Nat) : Int) + d g) % p)) f) X) (mle f X + (gs.map fun g => wt X (i g) * d g).sum)
  | [], f, _, _ => .of_eq (by show _ = _ + 0; rw [Int.add_zero]; rfl)
  | g :: gs, f, hf, h => by
    have z := mle_foldset (p := p) i d gs (f.set (i g) ((gi f ((i g : Nat) : Int) + d g) % p)) (by rw [List.length_set]; exact hf) fun q hq => h q (List.mem_cons_of_mem _ hq)
    refine Cg.trans z ?_
    rw [List.map_cons, List.sum_cons, ← Int.add_assoc]
    exact Cg.add (mle_set (h g List.mem_cons_self) hf) .refl
theorem mle_zer {n : Nat} {X : List Int} : mle (zer n) X = 0 := by
  unfold mle
  rw [S_congr (g := fun _ => 0) _ fun z _ => ?_]
  · exact S_one (f := fun _ => (0 : Int)) (i := 0) (fun _ _ => rfl) _ |>.trans (by split <;> rfl)
  · rw [gi_nat, List.getD_eq_getElem?_getD]
    unfold zer
    rw [List.getElem?_replicate]
    split <;> simp
theorem foldl_same {α β : Type} {F G : β → α → β} : ∀ (gs : List α) (f : β), (∀ f, ∀ g ∈ gs, F f g = G f g) → gs.foldl F f = gs.foldl G f
  | [], _, _ => rfl
  | g :: gs, f, h => by
    rw [List.foldl_cons, List.foldl_cons, h f g List.mem_cons_self]
    exact foldl_same gs _ fun f g hg => h f g (List.mem_cons_of_mem _ hg)
theorem mle_ft1 {p : Int} {below X : List Int} {gs : List WG} {n : Nat} (hn : n = 2 ^ X.length) (h : ∀ q ∈ gs, wgOK p n q) : Cg p (mle (ft1 p below gs (zer n)) X) (gs.map fun q => wt X q.x.toNat * (q.a + q.c * gi below q.y)).sum := by
  have z := mle_foldset (p := p) (X := X) (fun q => q.x.toNat) (fun q => q.a + q.c * gi below q.y) gs (zer n) (by rw [zer_len]; exact hn) fun q hq => by
    have := (h q hq).2.2.2.1
    omega
  rw [mle_zer, Int.zero_add] at z
  refine Cg.trans (.of_eq ?_) z
  refine congrArg (fun f => mle f X) ?_
  unfold ft1
  refine foldl_same gs _ fun f g hg => ?_
  have := (h g hg).2.2.2.1
  rw [show ((g.x.toNat : Nat) : Int) = g.x by omega, Int.add_assoc]
theorem mle_rs1 {p : Int} {below X : List Int} {gs : List WG} {n : Nat} (hn : n = 2 ^ X.length) (h : ∀ q ∈ gs, wgOK p n q) : Cg p (mle (rs1 p below gs (zer n)) X) (gs.map fun q => wt X q.x.toNat * (q.b * gi below q.y)).sum := by
  have z := mle_foldset (p := p) (X := X) (fun q => q.x.toNat) (fun q => q.b * gi below q.y) gs (zer n) (by rw [zer_len]; exact hn) fun q hq => by
    have := (h q hq).2.2.2.1
    omega
  rw [mle_zer, Int.zero_add] at z
  refine Cg.trans (.of_eq ?_) z
  refine congrArg (fun f => mle f X) ?_
  unfold rs1
  refine foldl_same gs _ fun f g hg => ?_
  have := (h g hg).2.2.2.1
  rw [show ((g.x.toNat : Nat) : Int) = g.x by omega]
theorem mle_ft2 {p v : Int} {w X : List Int} {gs : List WG} {n : Nat} (hn : n = 2 ^ X.length) (h : ∀ q ∈ gs, wgOK p n q) : Cg p (mle (ft2 p w v gs (zer n)) X) (gs.map fun q => wt X q.y.toNat * (gi w q.x * (q.b + q.c * v))).sum := by
  have z := mle_foldset (p := p) (X := X) (fun q => q.y.toNat) (fun q => gi w q.x * (q.b + q.c * v)) gs (zer n) (by rw [zer_len]; exact hn) fun q hq => by
    have := (h q hq).2.2.2.2
    omega
  rw [mle_zer, Int.zero_add] at z
  refine Cg.trans (.of_eq ?_) z
  refine congrArg (fun f => mle f X) ?_
  unfold ft2
  refine foldl_same gs _ fun f g hg => ?_
  have := (h g hg).2.2.2.2
  rw [show ((g.y.toNat : Nat) : Int) = g.y by omega]
theorem mle_rs2 {p v : Int} {w X : List Int} {gs : List WG} {n : Nat} (hn : n = 2 ^ X.length) (h : ∀ q ∈ gs, wgOK p n q) : Cg p (mle (rs2 p w v gs (zer n)) X) (gs.map fun q => wt X q.y.toNat * (gi w q.x * q.a % p * v)).sum := by
  have z := mle_foldset (p := p) (X := X) (fun q => q.y.toNat) (fun q => gi w q.x * q.a % p * v) gs (zer n) (by rw [zer_len]; exact hn) fun q hq => by
    have := (h q hq).2.2.2.2
    omega
  rw [mle_zer, Int.zero_add] at z
  refine Cg.trans (.of_eq ?_) z
  refine congrArg (fun f => mle f X) ?_
  unfold rs2
  refine foldl_same gs _ fun f g hg => ?_
  have := (h g hg).2.2.2.2
  rw [show ((g.y.toNat : Nat) : Int) = g.y by omega]



/-! ### the state by the throws so far -/
def fl1 (p : Int) (r t : List Int) : List Int := r.foldl (foldS p) t
structure Base (s : AS) (gs : List WG) (P1 : List Int) (C0 : List (List Int)) (r : List Int) : Prop where
  gates : s.gates = gs
  round : s.round = r.length
  near : s.near = fl1 s.c.p (r.take s.b) P1
  cols : s.cols = C0.map fun q => fl1 s.c.p (r.take s.b) q
  first : s.first = (r.drop s.b).take s.wide
  second : s.second = (r.drop (s.b + s.wide)).take s.wide
structure PhS (s : AS) : Prop where
  share : s.share = gi s.near 0
  below : s.below = s.cols.map fun c => gi c 0
structure Ph1 (s : AS) (r : List Int) : Prop extends PhS s where
  fac : s.fac = fl1 s.c.p (r.drop s.b) (ft1 s.c.p s.below s.gates (zer s.below.length))
  rest : s.rest = fl1 s.c.p (r.drop s.b) (rs1 s.c.p s.below s.gates (zer s.below.length))
  left : s.left = fl1 s.c.p (r.drop s.b) s.below
structure Ph2 (s : AS) (r : List Int) : Prop extends PhS s where
  fac : s.fac = fl1 s.c.p ((r.drop (s.b + s.wide)).take s.wide) (ft2 s.c.p (pointT s.first s.c.p) (gi (fl1 s.c.p ((r.drop s.b).take s.wide) s.below) 0) s.gates (zer s.below.length))
  rest : s.rest = fl1 s.c.p ((r.drop (s.b + s.wide)).take s.wide) (rs2 s.c.p (pointT s.first s.c.p) (gi (fl1 s.c.p ((r.drop s.b).take s.wide) s.below) 0) s.gates (zer s.below.length))
  left : s.left = fl1 s.c.p ((r.drop (s.b + s.wide)).take s.wide) s.below
structure Inv (s : AS) (gs : List WG) (P1 : List Int) (C0 : List (List Int)) (r : List Int) : Prop where
  base : Base s gs P1 C0 r
  one : s.b ≤ r.length → r.length < s.b + s.wide → Ph1 s r
  two : s.b + s.wide ≤ r.length → Ph2 s r
structure Pre (s : AS) (gs : List WG) (P1 : List Int) (C0 : List (List Int)) (r : List Int) : Prop where
  base : Base s gs P1 C0 r
  one : s.b < r.length → r.length ≤ s.b + s.wide → Ph1 s r
  two : s.b + s.wide < r.length → Ph2 s r
theorem turn_inv {s : AS} {gs : List WG} {P1 : List Int} {C0 : List (List Int)} {r : List Int} (h : Pre s gs P1 C0 r) : Inv (turnF s) gs P1 C0 r := by
  have hb := h.base
  have hr := hb.round
  -- the first half
  have b1 : Base (turn1 s) gs P1 C0 r := by
    unfold turn1
    split
    · exact ⟨hb.gates, hb.round, hb.near, hb.cols, hb.first, hb.second⟩
    · exact hb
  have p1 : s.b ≤ r.length → r.length ≤ s.b + s.wide → Ph1 (turn1 s) r := fun h1 h2 => by
    by_cases e : s.round = s.b
    · have t1 : turn1 s = { s with share := gi s.near 0, below := s.cols.map fun c => gi c 0, fac := ft1 s.c.p (s.cols.map fun c => gi c 0) s.gates (zer s.cols.length), rest := rs1 s.c.p (s.cols.map fun c => gi c 0) s.gates (zer s.cols.length), left := s.cols.map fun c => gi c 0, steps := s.steps + (s.gates.length : Nat) } := if_pos e
      rw [t1]
      have e2 : r.drop s.b = [] := List.drop_eq_nil_of_le (by omega)
      refine ⟨⟨rfl, rfl⟩, ?_, ?_, ?_⟩
      · show ft1 _ _ _ _ = fl1 _ (r.drop s.b) (ft1 _ _ _ (zer (s.cols.map _).length))
        rw [e2, List.length_map]; rfl
      · show rs1 _ _ _ _ = fl1 _ (r.drop s.b) (rs1 _ _ _ (zer (s.cols.map _).length))
        rw [e2, List.length_map]; rfl
      · show s.cols.map _ = fl1 _ (r.drop s.b) (s.cols.map _)
        rw [e2]; rfl
    · have t1 : turn1 s = s := if_neg e
      rw [t1]
      exact h.one (by omega) h2
  have p2 : s.b + s.wide < r.length → Ph2 (turn1 s) r := fun h1 => by
    have t1 : turn1 s = s := if_neg (by omega)
    rw [t1]
    exact h.two h1
  have tr := turn1_r s
  have t2 : turnF s = turn2 (turn1 s) := rfl
  rw [t2]
  rw [← tr.2.1, ← tr.2.2.1] at p1 p2
  have hr1 : (turn1 s).round = r.length := b1.round
  generalize turn1 s = s1 at *
  unfold turn2
  split
  · rename_i e
    have q1 := p1 (by omega) (by omega)
    have e1 : (r.drop s1.b).take s1.wide = r.drop s1.b := List.take_of_length_le (by rw [List.length_drop]; omega)
    have e2 : (r.drop (s1.b + s1.wide)).take s1.wide = [] := by rw [List.drop_eq_nil_of_le (by omega)]; exact List.take_nil
    have el : gi s1.left 0 = gi (fl1 s1.c.p ((r.drop s1.b).take s1.wide) s1.below) 0 := by rw [e1, q1.left]
    refine ⟨⟨b1.gates, b1.round, b1.near, b1.cols, b1.first, b1.second⟩, fun h1 h2 => ?_, fun _ => ⟨⟨q1.share, q1.below⟩, ?_, ?_, ?_⟩⟩
    · have h2 : r.length < s1.b + s1.wide := h2
      omega
    · show ft2 _ _ _ _ _ = fl1 _ ((r.drop (s1.b + s1.wide)).take s1.wide) (ft2 _ _ (gi (fl1 s1.c.p ((r.drop s1.b).take s1.wide) s1.below) 0) _ _)
      rw [e2, el]; rfl
    · show rs2 _ _ _ _ _ = fl1 _ ((r.drop (s1.b + s1.wide)).take s1.wide) (rs2 _ _ (gi (fl1 s1.c.p ((r.drop s1.b).take s1.wide) s1.below) 0) _ _)
      rw [e2, el]; rfl
    · show s1.below = fl1 _ ((r.drop (s1.b + s1.wide)).take s1.wide) s1.below
      rw [e2]; rfl
  · rename_i e
    exact ⟨b1, fun h1 h2 => p1 h1 (by omega), fun h => p2 (by omega)⟩
theorem fl1_app {p z : Int} {r t : List Int} : fl1 p (r ++ [z]) t = foldS p (fl1 p r t) z := by unfold fl1; rw [List.foldl_append]; rfl
theorem take_app1 {r : List Int} {z : Int} {n : Nat} (h : n ≤ r.length) : (r ++ [z]).take n = r.take n := List.take_append_of_le_length h
theorem take_app2 {r : List Int} {z : Int} {n : Nat} (h : r.length < n) : (r ++ [z]).take n = r ++ [z] := List.take_of_length_le (by rw [List.length_append]; show r.length + 1 ≤ n; omega)
theorem drop_app1 {r : List Int} {z : Int} {n : Nat} (h : n ≤ r.length) : (r ++ [z]).drop n = r.drop n ++ [z] := List.drop_append_of_le_length h
theorem throw_inv {s : AS} {gs : List WG} {P1 : List Int} {C0 : List (List Int)} {r : List Int} (h : Inv s gs P1 C0 r) {z : Int} (hr : r.length < s.b + 2 * s.wide) : Inv (throwF s z) gs P1 C0 (r ++ [z]) := by
  have hb := h.base
  have er := hb.round
  refine turn_inv ?_
  have rl : (r ++ [z]).length = r.length + 1 := by rw [List.length_append]; rfl
  by_cases h1 : s.round < s.b
  · have em : midF s z = { s with near := foldS s.c.p s.near z, cols := s.cols.map fun c => foldS s.c.p c z } := if_pos h1
    rw [em]
    refine ⟨⟨hb.gates, by show s.round + 1 = _; omega, ?_, ?_, ?_, ?_⟩, fun h => ?_, fun h => ?_⟩
    · show foldS s.c.p s.near z = fl1 s.c.p ((r ++ [z]).take s.b) P1
      rw [take_app2 (by omega), fl1_app, hb.near, List.take_of_length_le (by omega)]
    · show s.cols.map _ = C0.map fun q => fl1 s.c.p ((r ++ [z]).take s.b) q
      rw [take_app2 (by omega), hb.cols, List.map_map, List.take_of_length_le (show r.length ≤ s.b by omega)]
      refine List.map_congr_left fun q _ => ?_
      show foldS _ (fl1 _ _ _) _ = _
      rw [fl1_app]
    · show s.first = ((r ++ [z]).drop s.b).take s.wide
      rw [hb.first, List.drop_eq_nil_of_le (show r.length ≤ s.b by omega), List.drop_eq_nil_of_le (by omega)]
    · show s.second = ((r ++ [z]).drop (s.b + s.wide)).take s.wide
      rw [hb.second, List.drop_eq_nil_of_le (show r.length ≤ s.b + s.wide by omega), List.drop_eq_nil_of_le (by omega)]
    · have h : s.b < (r ++ [z]).length := h
      omega
    · have h : s.b + s.wide < (r ++ [z]).length := h
      omega
  · have em : midF s z = { s with fac := foldS s.c.p s.fac z, rest := foldS s.c.p s.rest z, left := foldS s.c.p s.left z, first := if s.round < s.b + s.wide then s.first ++ [z] else s.first, second := if s.round < s.b + s.wide then s.second else s.second ++ [z] } := by
      unfold midF; rw [if_neg h1, if_pos (by omega)]
    rw [em]
    have d1 : (r ++ [z]).drop s.b = r.drop s.b ++ [z] := drop_app1 (by omega)
    by_cases y : s.round < s.b + s.wide
    · rw [if_pos y, if_pos y]
      have q := h.one (by omega) (by omega)
      have dl : (r.drop s.b).length < s.wide := by rw [List.length_drop]; omega
      refine ⟨⟨hb.gates, by show s.round + 1 = _; omega, ?_, ?_, ?_, ?_⟩, fun _ _ => ⟨⟨q.share, q.below⟩, ?_, ?_, ?_⟩, fun h => ?_⟩
      · show s.near = fl1 s.c.p ((r ++ [z]).take s.b) P1
        rw [take_app1 (by omega)]; exact hb.near
      · show s.cols = C0.map fun q => fl1 s.c.p ((r ++ [z]).take s.b) q
        rw [take_app1 (by omega)]; exact hb.cols
      · show s.first ++ [z] = ((r ++ [z]).drop s.b).take s.wide
        rw [d1, take_app2 dl, hb.first, List.take_of_length_le (by omega)]
      · show s.second = ((r ++ [z]).drop (s.b + s.wide)).take s.wide
        rw [hb.second, List.drop_eq_nil_of_le (show r.length ≤ s.b + s.wide by omega), List.drop_eq_nil_of_le (by omega)]
      · show foldS _ s.fac z = fl1 s.c.p ((r ++ [z]).drop s.b) _
        rw [d1, fl1_app, q.fac]
      · show foldS _ s.rest z = fl1 s.c.p ((r ++ [z]).drop s.b) _
        rw [d1, fl1_app, q.rest]
      · show foldS _ s.left z = fl1 s.c.p ((r ++ [z]).drop s.b) _
        rw [d1, fl1_app, q.left]
      · have h : s.b + s.wide < (r ++ [z]).length := h
        omega
    · rw [if_neg y, if_neg y]
      have q := h.two (by omega)
      have d2 : (r ++ [z]).drop (s.b + s.wide) = r.drop (s.b + s.wide) ++ [z] := drop_app1 (by omega)
      have dl : (r.drop (s.b + s.wide)).length < s.wide := by rw [List.length_drop]; omega
      have d3 : ((r ++ [z]).drop (s.b + s.wide)).take s.wide = ((r.drop (s.b + s.wide)).take s.wide) ++ [z] := by rw [d2, take_app2 dl, List.take_of_length_le (show (r.drop (s.b + s.wide)).length ≤ s.wide by omega)]
      have d4 : ((r ++ [z]).drop s.b).take s.wide = (r.drop s.b).take s.wide := by rw [d1, take_app1 (by rw [List.length_drop]; omega)]
      refine ⟨⟨hb.gates, by show s.round + 1 = _; omega, ?_, ?_, ?_, ?_⟩, fun h1 h2 => ?_, fun _ => ⟨⟨q.share, q.below⟩, ?_, ?_, ?_⟩⟩
      · show s.near = fl1 s.c.p ((r ++ [z]).take s.b) P1
        rw [take_app1 (by omega)]; exact hb.near
      · show s.cols = C0.map fun q => fl1 s.c.p ((r ++ [z]).take s.b) q
        rw [take_app1 (by omega)]; exact hb.cols
      · show s.first = ((r ++ [z]).drop s.b).take s.wide
        rw [d4]; exact hb.first
      · show s.second ++ [z] = ((r ++ [z]).drop (s.b + s.wide)).take s.wide
        rw [d3, hb.second]
      · have h2 : (r ++ [z]).length ≤ s.b + s.wide := h2
        omega
      · show foldS _ s.fac z = fl1 s.c.p (((r ++ [z]).drop (s.b + s.wide)).take s.wide) (ft2 s.c.p (pointT s.first s.c.p) (gi (fl1 s.c.p (((r ++ [z]).drop s.b).take s.wide) s.below) 0) s.gates _)
        rw [d3, d4, fl1_app, q.fac]
      · show foldS _ s.rest z = fl1 s.c.p (((r ++ [z]).drop (s.b + s.wide)).take s.wide) (rs2 s.c.p (pointT s.first s.c.p) (gi (fl1 s.c.p (((r ++ [z]).drop s.b).take s.wide) s.below) 0) s.gates _)
        rw [d3, d4, fl1_app, q.rest]
      · show foldS _ s.left z = fl1 s.c.p (((r ++ [z]).drop (s.b + s.wide)).take s.wide) s.below
        rw [d3, fl1_app, q.left]
theorem poly_inv {s : AS} {gs : List WG} {P1 : List Int} {C0 : List (List Int)} {r : List Int} (h : Inv s gs P1 C0 r) : Inv (polyS s) gs P1 C0 r :=
  ⟨⟨h.base.gates, h.base.round, h.base.near, h.base.cols, h.base.first, h.base.second⟩, fun h1 h2 => by
    have q := h.one h1 h2
    exact ⟨⟨q.share, q.below⟩, q.fac, q.rest, q.left⟩, fun h1 => by
    have q := h.two h1
    exact ⟨⟨q.share, q.below⟩, q.fac, q.rest, q.left⟩⟩



/-! ### the polynomials are the sums -/
def Fsp (P1 B : List Int) (b w : Nat) (gs : List WG) (z : List Int) : Int := mle P1 (z.take b) * WGsum gs ((z.drop b).take w) (z.drop (b + w)) (mle B (z.take b ++ (z.drop b).take w)) (mle B (z.take b ++ z.drop (b + w)))
def sumF (P1 B : List Int) (b w : Nat) (gs : List WG) (r : List Int) : Int := S (2 ^ (b + 2 * w - r.length)) fun k => Fsp P1 B b w gs (r ++ corn k (b + 2 * w - r.length))
structure Ctx (p : Int) (P1 B : List Int) (b w : Nat) (gs : List WG) : Prop where
  pl : P1.length = 2 ^ b
  bl : B.length = 2 ^ b * 2 ^ w
  g : ∀ q ∈ gs, wgOK p (2 ^ w) q
theorem Fsp_parts {P1 B : List Int} {b w : Nat} {gs : List WG} {R X Y : List Int} (hR : R.length = b) (hX : X.length = w) : Fsp P1 B b w gs (R ++ (X ++ Y)) = mle P1 R * WGsum gs X Y (mle B (R ++ X)) (mle B (R ++ Y)) := by
  subst hR; subst hX
  unfold Fsp
  rw [List.take_left, List.drop_left, List.take_left, ← List.drop_drop, List.drop_left, List.drop_left]
theorem colT_len {B : List Int} {b w x : Nat} (hB : B.length = 2 ^ b * 2 ^ w) (hx : x < 2 ^ w) : (colT B b x).length = 2 ^ b := by
  unfold colT
  have h1 := Nat.mul_le_mul_left (2 ^ b) (show x + 1 ≤ 2 ^ w by omega)
  have h2 : 2 ^ b * (x + 1) = 2 ^ b * x + 2 ^ b := Nat.mul_succ _ _
  rw [List.length_take, List.length_drop]
  omega
theorem S_prod {F : Nat → Int} {m w : Nat} : S (2 ^ (m + w)) F = S (2 ^ m) fun i => S (2 ^ w) fun x => F (i + 2 ^ m * x) := by
  rw [Nat.pow_add, S_split, S_swap2]
  exact S_congr _ fun i _ => S_congr _ fun x _ => by rw [Nat.add_comm]
theorem S_mulR {c : Int} {f : Nat → Int} {n : Nat} : S n (fun i => f i * c) = S n f * c := by
  rw [Int.mul_comm, ← S_mul]
  exact S_congr _ fun i _ => Int.mul_comm _ _
theorem gsum_cg {p : Int} {gs : List WG} {cc : List Int} {U : Nat → Int} {n : Nat} (hg : ∀ q ∈ gs, wgOK p n q) (h : ∀ x < n, Cg p (gi cc (x : Nat)) (U x)) : Cg p (gsum p gs cc) (gs.map fun q => gF q (U q.x.toNat) (U q.y.toNat)).sum := by
  unfold gsum
  refine Cg.mod.trans (sum_cg gs fun q hq => ?_)
  obtain ⟨_, _, _, ⟨x0, x1⟩, y0, y1⟩ := hg q hq
  have hx := h q.x.toNat (by omega)
  have hy := h q.y.toNat (by omega)
  rw [show ((q.x.toNat : Nat) : Int) = q.x by omega] at hx
  rw [show ((q.y.toNat : Nat) : Int) = q.y by omega] at hy
  unfold gF
  exact Cg.add (Cg.add (Cg.mul .refl hx) (Cg.mul .refl hy)) (Cg.mul (Cg.mod.trans (Cg.mul .refl hx)) hy)
theorem corn3 {m w i x y : Nat} (hi : i < 2 ^ m) (hx : x < 2 ^ w) : corn (i + 2 ^ m * (x + 2 ^ w * y)) (m + (w + w)) = corn i m ++ (corn x w ++ corn y w) := by
  rw [corn_app m i _ _ hi, corn_app w x _ _ hx]
theorem foldset_len {α : Type} (i : α → Nat) (v : List Int → α → Int) : ∀ (gs : List α) {f : List Int}, (gs.foldl (fun f g => f.set (i g) (v f g)) f).length = f.length
  | [], _ => rfl
  | g :: gs, f => by
    rw [List.foldl_cons, foldset_len i v gs, List.length_set]
theorem row_sum {p : Int} {P1 B : List Int} {b w : Nat} {gs : List WG} (C : Ctx p P1 B b w gs) {s : AS} {r : List Int} (hp : s.c.p = p) (hb : s.b = b) (hw : s.wide = w) (h : Inv s gs P1 ((List.range (2 ^ w)).map fun k => colT B b k) r) (hr : r.length < b) (t : Int) :
    Cg p (rowV s t) (sumF P1 B b w gs (r ++ [t])) := by
  subst hp
  have hB := h.base
  have eN : s.near = fl1 s.c.p r P1 := by rw [hB.near, hb, List.take_of_length_le (by omega)]
  have eC : s.cols = (List.range (2 ^ w)).map fun k => fl1 s.c.p r (colT B b k) := by
    rw [hB.cols, hb, List.take_of_length_le (by omega), List.map_map]; rfl
  obtain ⟨m, hm⟩ : ∃ m, b = r.length + (m + 1) := ⟨b - r.length - 1, by omega⟩
  have flen : ∀ t : List Int, t.length = 2 ^ b → (fl1 s.c.p r t).length = 2 ^ (m + 1) := fun t ht => foldl_len r t (m + 1) (by rw [ht, hm])
  have hN2 : s.near.length / 2 = 2 ^ m := by rw [eN, flen P1 C.pl, Nat.pow_succ, Nat.mul_div_cancel _ (by decide)]
  have rl : (r ++ [t]).length = r.length + 1 := by rw [List.length_append]; rfl
  have many : b + 2 * w - (r ++ [t]).length = m + (w + w) := by omega
  unfold rowV sumF
  rw [hN2, many, S_prod, hB.gates]
  refine Cg.mod.trans (S_cg _ fun i hi => ?_)
  have key : S (2 ^ (w + w)) (fun k => Fsp P1 B b w gs (r ++ [t] ++ corn (i + 2 ^ m * k) (m + (w + w)))) = mle P1 (r ++ (t :: corn i m)) * (gs.map fun q => gF q (mle (colT B b q.x.toNat) (r ++ (t :: corn i m))) (mle (colT B b q.y.toNat) (r ++ (t :: corn i m)))).sum := by
    have Rl : (r ++ (t :: corn i m)).length = b := by rw [List.length_append, List.length_cons, corn_len]; omega
    rw [S_prod]
    have e1 : ∀ x < 2 ^ w, ∀ y < 2 ^ w, Fsp P1 B b w gs (r ++ [t] ++ corn (i + 2 ^ m * (x + 2 ^ w * y)) (m + (w + w))) = mle P1 (r ++ (t :: corn i m)) * WGsum gs (corn x w) (corn y w) (mle (colT B b x) (r ++ (t :: corn i m))) (mle (colT B b y) (r ++ (t :: corn i m))) := fun x hx y hy => by
      rw [corn3 hi hx, show r ++ [t] ++ (corn i m ++ (corn x w ++ corn y w)) = (r ++ (t :: corn i m)) ++ (corn x w ++ corn y w) by simp, Fsp_parts Rl corn_len, mle_col Rl hx, mle_col Rl hy]
    rw [S_congr (2 ^ w) fun x hx => (S_congr (2 ^ w) fun y hy => e1 x hx y hy)]
    rw [S_congr (2 ^ w) fun x hx => S_mul (2 ^ w), S_mul]
    rw [wg_corn (U := fun x => mle (colT B b x) (r ++ (t :: corn i m))) (V := fun y => mle (colT B b y) (r ++ (t :: corn i m))) fun q hq => by
      obtain ⟨_, _, _, ⟨x0, x1⟩, y0, y1⟩ := C.g q hq
      constructor <;> omega]
  rw [key]
  have cl : (t :: corn i m).length = m + 1 := by rw [List.length_cons, corn_len]
  have tc : ∀ T : List Int, T.length = 2 ^ b → Cg s.c.p (mle T (r ++ (t :: corn i m))) (atN (fl1 s.c.p r T) i t) := fun T hT => by
    refine (mle_app (p := s.c.p) r (t :: corn i m) T (by rw [hT, cl, hm])).trans (.of_eq ?_)
    exact mle_tcorn hi
  refine Cg.mul (Cg.mod.trans ?_) (gsum_cg (U := fun x => mle (colT B b x) (r ++ (t :: corn i m))) C.g fun x hx => ?_)
  · rw [eN]; exact (tc P1 C.pl).symm
  · have e : gi (s.cols.map fun c => atN c i t % s.c.p) (x : Nat) = atN (fl1 s.c.p r (colT B b x)) i t % s.c.p := by
      rw [eC, List.map_map]
      exact gi_range hx
    rw [e]
    exact Cg.mod.trans (tc _ (colT_len C.bl hx)).symm
/-- what lies below, at the thrown rows -/
theorem below_cg {p : Int} {B R : List Int} {b w : Nat} {below : List Int} (hB : B.length = 2 ^ b * 2 ^ w) (hR : R.length = b) (hbe : below = (List.range (2 ^ w)).map fun k => gi (fl1 p R (colT B b k)) 0) {h : Nat} (hh : h < 2 ^ w) : Cg p (gi below (h : Nat)) (mle (colT B b h) R) := by
  rw [hbe, gi_range hh]
  have z := mle_app (p := p) R [] (colT B b h) (by rw [colT_len hB hh, List.length_nil, Nat.add_zero, hR])
  rw [List.append_nil, mle_nil] at z
  exact z.symm
theorem mleB_cg {p : Int} {B R X : List Int} {b w : Nat} {below : List Int} (hB : B.length = 2 ^ b * 2 ^ w) (hR : R.length = b) (hX : X.length = w) (hbe : below = (List.range (2 ^ w)).map fun k => gi (fl1 p R (colT B b k)) 0) : Cg p (mle B (R ++ X)) (mle below X) := by
  rw [mle_two hR, hX]
  unfold mle
  rw [hX]
  exact S_cg _ fun h hh => Cg.mul .refl (below_cg hB hR hbe hh).symm
theorem ph_below {p : Int} {P1 B : List Int} {b w : Nat} {gs : List WG} {s : AS} {r : List Int} (hp : s.c.p = p) (hb : s.b = b) (hB : Base s gs P1 ((List.range (2 ^ w)).map fun k => colT B b k) r) (ph : PhS s) : s.below = (List.range (2 ^ w)).map fun k => gi (fl1 p (r.take b) (colT B b k)) 0 := by
  subst hp; subst hb
  rw [ph.below, hB.cols, List.map_map, List.map_map]; rfl
theorem ph_share {p : Int} {P1 B : List Int} {b w : Nat} {gs : List WG} (C : Ctx p P1 B b w gs) {s : AS} {r : List Int} (hp : s.c.p = p) (hb : s.b = b) {C0 : List (List Int)} (hB : Base s gs P1 C0 r) (ph : PhS s) (hr : b ≤ r.length) : Cg p s.share (mle P1 (r.take b)) := by
  subst hp; subst hb
  rw [ph.share, hB.near]
  have z := mle_app (p := s.c.p) (r.take s.b) [] P1 (by rw [C.pl, List.length_nil, Nat.add_zero, List.length_take, Nat.min_eq_left hr])
  rw [List.append_nil, mle_nil] at z
  exact z.symm
theorem lin1 (X : List Int) (U : Int) (be : List Int) : ∀ gs : List WG, (gs.map fun q => wt X q.x.toNat * (q.a + q.c * gi be q.y)).sum * U + (gs.map fun q => wt X q.x.toNat * (q.b * gi be q.y)).sum = (gs.map fun q => wt X q.x.toNat * gF q U (gi be q.y)).sum
  | [] => by show 0 * U + 0 = (0 : Int); omega
  | q :: gs => by
    have ih := lin1 X U be gs
    simp only [List.map_cons, List.sum_cons]
    rw [← ih]
    unfold gF
    grind
theorem lin2 (F G : WG → Int) (V : Int) : ∀ gs : List WG, (gs.map F).sum * V + (gs.map G).sum = (gs.map fun q => F q * V + G q).sum
  | [] => by show 0 * V + 0 = (0 : Int); omega
  | q :: gs => by
    have ih := lin2 F G V gs
    simp only [List.map_cons, List.sum_cons]
    rw [← ih]
    grind
theorem col_sum1 {p : Int} {P1 B : List Int} {b w : Nat} {gs : List WG} (C : Ctx p P1 B b w gs) {s : AS} {r : List Int} (hp : s.c.p = p) (hb : s.b = b) (hw : s.wide = w) (h : Inv s gs P1 ((List.range (2 ^ w)).map fun k => colT B b k) r) (hr : b ≤ r.length) (hr2 : r.length < b + w) (t : Int) :
    Cg p (colV s t) (sumF P1 B b w gs (r ++ [t])) := by
  have hB := h.base
  have ph := h.one (by omega) (by omega)
  have hbe := ph_below hp hb hB ph.toPhS
  have hsh := ph_share C hp hb hB ph.toPhS hr
  subst hp
  have Rl : (r.take b).length = b := by rw [List.length_take, Nat.min_eq_left hr]
  have er : r = r.take b ++ r.drop b := (List.take_append_drop b r).symm
  have X0l : (r.drop b).length = r.length - b := List.length_drop ..
  obtain ⟨m, hm⟩ : ∃ m, w = (r.drop b).length + (m + 1) := ⟨w - (r.drop b).length - 1, by omega⟩
  have bl : s.below.length = 2 ^ w := by rw [hbe, List.length_map, List.length_range]
  have flen : ∀ t : List Int, t.length = 2 ^ w → (fl1 s.c.p (r.drop b) t).length = 2 ^ (m + 1) := fun t ht => foldl_len (r.drop b) t (m + 1) (by rw [ht, hm])
  have eL : s.left = fl1 s.c.p (r.drop b) s.below := by rw [ph.left, hb]
  have hN2 : s.left.length / 2 = 2 ^ m := by rw [eL, flen _ bl, Nat.pow_succ, Nat.mul_div_cancel _ (by decide)]
  have rl : (r ++ [t]).length = r.length + 1 := by rw [List.length_append]; rfl
  have many : b + 2 * w - (r ++ [t]).length = m + w := by omega
  unfold colV sumF
  rw [hN2, many, S_prod]
  refine Cg.mod.trans ?_
  rw [← S_mulR]
  refine S_cg _ fun i hi => ?_
  have cl : (t :: corn i m).length = m + 1 := by rw [List.length_cons, corn_len]
  have Xl : (r.drop b ++ (t :: corn i m)).length = w := by rw [List.length_append, cl]; omega
  have key : S (2 ^ w) (fun k => Fsp P1 B b w gs (r ++ [t] ++ corn (i + 2 ^ m * k) (m + w))) = mle P1 (r.take b) * (gs.map fun q => wt (r.drop b ++ (t :: corn i m)) q.x.toNat * gF q (mle B (r.take b ++ (r.drop b ++ (t :: corn i m)))) (mle (colT B b q.y.toNat) (r.take b))).sum := by
    have e1 : ∀ y < 2 ^ w, Fsp P1 B b w gs (r ++ [t] ++ corn (i + 2 ^ m * y) (m + w)) = mle P1 (r.take b) * WGsum gs (r.drop b ++ (t :: corn i m)) (corn y w) (mle B (r.take b ++ (r.drop b ++ (t :: corn i m)))) (mle (colT B b y) (r.take b)) := fun y hy => by
      have e0 : r ++ [t] ++ corn (i + 2 ^ m * y) (m + w) = r.take b ++ ((r.drop b ++ (t :: corn i m)) ++ corn y w) := by
        rw [corn_app m i y w hi, show r ++ [t] ++ (corn i m ++ corn y w) = (r.take b ++ r.drop b) ++ [t] ++ (corn i m ++ corn y w) by rw [← er]]
        simp only [List.append_assoc, List.cons_append, List.nil_append]
      rw [e0, Fsp_parts Rl Xl, mle_col Rl hy]
    rw [S_congr (2 ^ w) fun y hy => e1 y hy, S_mul]
    rw [wg_corn1 (V := fun y => mle (colT B b y) (r.take b)) fun q hq => by
      obtain ⟨_, _, _, ⟨x0, x1⟩, y0, y1⟩ := C.g q hq
      omega]
  rw [key, Int.mul_comm (_ + _)]
  refine Cg.mul hsh ?_
  have tc : ∀ T : List Int, T.length = 2 ^ w → Cg s.c.p (mle T (r.drop b ++ (t :: corn i m))) (atN (fl1 s.c.p (r.drop b) T) i t) := fun T hT => by
    refine (mle_app (p := s.c.p) (r.drop b) (t :: corn i m) T (by rw [hT, cl, hm])).trans (.of_eq ?_)
    exact mle_tcorn hi
  have ef := (tc _ (show (ft1 s.c.p s.below gs (zer (2 ^ w))).length = 2 ^ w from (foldset_len _ _ _).trans zer_len)).symm.trans (mle_ft1 (by rw [Xl]) C.g)
  have eg := (tc _ (show (rs1 s.c.p s.below gs (zer (2 ^ w))).length = 2 ^ w from (foldset_len _ _ _).trans zer_len)).symm.trans (mle_rs1 (by rw [Xl]) C.g)
  have el := (tc _ bl).symm.trans (mleB_cg C.bl Rl Xl hbe).symm
  rw [ph.fac, ph.rest, eL, hb, hB.gates, bl]
  refine (Cg.add (Cg.mul ef el) eg).trans ?_
  refine Cg.trans (b := (gs.map fun q => wt (r.drop b ++ (t :: corn i m)) q.x.toNat * gF q (mle B (r.take b ++ (r.drop b ++ (t :: corn i m)))) (gi s.below q.y)).sum) ?_ ?_
  · exact .of_eq (lin1 _ _ _ gs)
  · refine sum_cg gs fun q hq => ?_
    obtain ⟨_, _, _, ⟨x0, x1⟩, y0, y1⟩ := C.g q hq
    have z := below_cg (p := s.c.p) C.bl Rl hbe (h := q.y.toNat) (by omega)
    rw [show ((q.y.toNat : Nat) : Int) = q.y by omega] at z
    unfold gF
    exact Cg.mul .refl (Cg.add (Cg.add .refl (Cg.mul .refl z)) (Cg.mul .refl z))
theorem col_sum2 {p : Int} {P1 B : List Int} {b w : Nat} {gs : List WG} (C : Ctx p P1 B b w gs) {s : AS} {r : List Int} (hp : s.c.p = p) (hb : s.b = b) (hw : s.wide = w) (h : Inv s gs P1 ((List.range (2 ^ w)).map fun k => colT B b k) r) (hr : b + w ≤ r.length) (hr2 : r.length < b + 2 * w) (t : Int) :
    Cg p (colV s t) (sumF P1 B b w gs (r ++ [t])) := by
  have hB := h.base
  have ph := h.two (by omega)
  have hbe := ph_below hp hb hB ph.toPhS
  have hsh := ph_share C hp hb hB ph.toPhS (by omega)
  subst hp
  have Rl : (r.take b).length = b := by rw [List.length_take, Nat.min_eq_left (by omega)]
  have Xl : ((r.drop b).take w).length = w := by rw [List.length_take, List.length_drop]; omega
  have er : r = r.take b ++ ((r.drop b).take w ++ r.drop (b + w)) := by
    rw [← List.drop_drop, List.take_append_drop, List.take_append_drop]
  have Y0l : (r.drop (b + w)).length = r.length - (b + w) := List.length_drop ..
  obtain ⟨m, hm⟩ : ∃ m, w = (r.drop (b + w)).length + (m + 1) := ⟨w - (r.drop (b + w)).length - 1, by omega⟩
  have bl : s.below.length = 2 ^ w := by rw [hbe, List.length_map, List.length_range]
  have eY : (r.drop (b + w)).take w = r.drop (b + w) := List.take_of_length_le (by omega)
  have flen : ∀ t : List Int, t.length = 2 ^ w → (fl1 s.c.p (r.drop (b + w)) t).length = 2 ^ (m + 1) := fun t ht => foldl_len (r.drop (b + w)) t (m + 1) (by rw [ht, ← hm])
  have eL : s.left = fl1 s.c.p (r.drop (b + w)) s.below := by rw [ph.left, hb, hw, eY]
  have hN2 : s.left.length / 2 = 2 ^ m := by rw [eL, flen _ bl, Nat.pow_succ, Nat.mul_div_cancel _ (by decide)]
  have rl : (r ++ [t]).length = r.length + 1 := by rw [List.length_append]; rfl
  have many : b + 2 * w - (r ++ [t]).length = m := by omega
  unfold colV sumF
  rw [hN2, many]
  refine Cg.mod.trans ?_
  rw [← S_mulR]
  refine S_cg _ fun i hi => ?_
  have cl : (t :: corn i m).length = m + 1 := by rw [List.length_cons, corn_len]
  have Yl : (r.drop (b + w) ++ (t :: corn i m)).length = w := by rw [List.length_append, cl]; omega
  have e0 : r ++ [t] ++ corn i m = r.take b ++ ((r.drop b).take w ++ (r.drop (b + w) ++ (t :: corn i m))) := by
    rw [show r ++ [t] ++ corn i m = (r.take b ++ ((r.drop b).take w ++ r.drop (b + w))) ++ [t] ++ corn i m by rw [← er]]
    simp only [List.append_assoc, List.cons_append, List.nil_append]
  rw [e0, Fsp_parts Rl Xl, Int.mul_comm (_ + _)]
  refine Cg.mul hsh ?_
  have tc : ∀ T : List Int, T.length = 2 ^ w → Cg s.c.p (mle T (r.drop (b + w) ++ (t :: corn i m))) (atN (fl1 s.c.p (r.drop (b + w)) T) i t) := fun T hT => by
    refine (mle_app (p := s.c.p) (r.drop (b + w)) (t :: corn i m) T (by rw [hT, cl, ← hm])).trans (.of_eq ?_)
    exact mle_tcorn hi
  have hfirst : s.first = (r.drop b).take w := by rw [hB.first, hb, hw]
  obtain ⟨v, hv⟩ : ∃ v, v = gi (fl1 s.c.p ((r.drop b).take w) s.below) 0 := ⟨_, rfl⟩
  have ev : Cg s.c.p v (mle B (r.take b ++ (r.drop b).take w)) := by
    have z := mle_app (p := s.c.p) ((r.drop b).take w) [] s.below (by rw [bl, List.length_nil, Nat.add_zero, Xl])
    rw [List.append_nil, mle_nil] at z
    rw [hv]
    exact z.symm.trans (mleB_cg C.bl Rl Xl hbe).symm
  have ef := (tc _ (show (ft2 s.c.p (pointT ((r.drop b).take w) s.c.p) v gs (zer (2 ^ w))).length = 2 ^ w from (foldset_len _ _ _).trans zer_len)).symm.trans (mle_ft2 (by rw [Yl]) C.g)
  have eg := (tc _ (show (rs2 s.c.p (pointT ((r.drop b).take w) s.c.p) v gs (zer (2 ^ w))).length = 2 ^ w from (foldset_len _ _ _).trans zer_len)).symm.trans (mle_rs2 (by rw [Yl]) C.g)
  have el := (tc _ bl).symm.trans (mleB_cg C.bl Rl Yl hbe).symm
  rw [ph.fac, ph.rest, eL, hb, hw, hB.gates, bl, eY, hfirst, ← hv]
  refine (Cg.add (Cg.mul ef el) eg).trans ?_
  unfold WGsum
  generalize mle B (r.take b ++ (r.drop (b + w) ++ (t :: corn i m))) = V
  refine Cg.trans (b := (gs.map fun q => wt (r.drop (b + w) ++ (t :: corn i m)) q.y.toNat * (gi (pointT ((r.drop b).take w) s.c.p) q.x * (q.b + q.c * v)) * V + wt (r.drop (b + w) ++ (t :: corn i m)) q.y.toNat * (gi (pointT ((r.drop b).take w) s.c.p) q.x * q.a % s.c.p * v)).sum) ?_ ?_
  · exact .of_eq (lin2 _ _ _ gs)
  · refine sum_cg gs fun q hq => ?_
    obtain ⟨_, _, _, ⟨x0, x1⟩, y0, y1⟩ := C.g q hq
    have z := pointT_at (p := s.c.p) (pt := (r.drop b).take w) (z := q.x.toNat) (by rw [Xl]; omega)
    rw [show ((q.x.toNat : Nat) : Int) = q.x by omega] at z
    generalize wt (r.drop (b + w) ++ (t :: corn i m)) q.y.toNat = wy at *
    generalize mle B (r.take b ++ (r.drop b).take w) = U at *
    refine (Cg.add (Cg.mul (Cg.mul .refl (Cg.mul z (Cg.add .refl (Cg.mul .refl ev)))) .refl) (Cg.mul .refl (Cg.mul (Cg.mod.trans (Cg.mul z .refl)) ev))).trans (.of_eq ?_)
    unfold gF
    grind



/-! ### the laws' own nearness, values, weights -/
def gD0 : Gate := .mul 0 0 0
def gA (X Y : List Int) : Gate → Int
  | .lin a x _ y => a * (wt X x.toNat * wt Y y.toNat)
  | .mul _ _ _ => 0
def gB (X Y : List Int) : Gate → Int
  | .lin _ x b y => b * (wt X x.toNat * wt Y y.toNat)
  | .mul _ _ _ => 0
def gC (X Y : List Int) : Gate → Int
  | .lin _ _ _ _ => 0
  | .mul c x y => c * (wt X x.toNat * wt Y y.toNat)
def wS (l : List Gate) (g : List Int) (f : Gate → Int) (n : Nat) : Int := S n fun k => wt g k * f (l.getD k gD0)
/-! ### a list taken apart -/
section
variable {X : Cx}
end
/-! ### the laws' sums -/
theorem zip_range {l : List Gate} {ws : List Int} (h : l.length = ws.length) : l.zip ws = (List.range l.length).map fun k => (l.getD k gD0, gi ws (k : Nat)) := by
  refine List.ext_getElem (by rw [List.length_zip, List.length_map, List.length_range, h, Nat.min_self]) fun i h1 h2 => ?_
  rw [List.length_map, List.length_range] at h2
  rw [List.getElem_zip, List.getElem_map, List.getElem_range, List.getD_eq_getElem?_getD, List.getElem?_eq_getElem h2, gi_nat, List.getD_eq_getElem?_getD, List.getElem?_eq_getElem (by omega)]; rfl
theorem wg_ws {p : Int} {l : List Gate} {g X Y : List Int} {u v : Int} (h : l.length = 2 ^ g.length) : Cg p (WGsum (wgts p l (pointT g p)) X Y u v) (wS l g (gA X Y) l.length * u + wS l g (gB X Y) l.length * v + wS l g (gC X Y) l.length * u * v) := by
  unfold WGsum wgts
  rw [zip_range (by rw [pointT_len, h]), List.map_map, List.map_map]
  rw [show ((List.range l.length).map _).sum = S l.length _ from sum_S l.length]
  unfold wS
  rw [← S_mulR, ← S_mulR, ← S_mulR, ← S_mulR, ← S_add, ← S_add]
  refine S_cg _ fun k hk => ?_
  have z := pointT_at (p := p) (pt := g) (z := k) (by omega)
  show Cg p (wt X (wgt p (gi (pointT g p) (k : Nat)) (l.getD k gD0)).x.toNat * wt Y (wgt p (gi (pointT g p) (k : Nat)) (l.getD k gD0)).y.toNat * gF (wgt p (gi (pointT g p) (k : Nat)) (l.getD k gD0)) u v) _
  generalize gi (pointT g p) (k : Nat) = w at z ⊢
  generalize l.getD k gD0 = q
  cases q with
  | lin a x b y =>
    show Cg p (wt X x.toNat * wt Y y.toNat * (a * w % p * u + b * w % p * v + 0 * u * v)) (wt g k * (a * (wt X x.toNat * wt Y y.toNat)) * u + wt g k * (b * (wt X x.toNat * wt Y y.toNat)) * v + wt g k * 0 * u * v)
    refine (Cg.mul .refl (Cg.add (Cg.add (Cg.mul (Cg.mod.trans (Cg.mul .refl z)) .refl) (Cg.mul (Cg.mod.trans (Cg.mul .refl z)) .refl)) .refl)).trans (.of_eq ?_)
    grind
  | mul c x y =>
    show Cg p (wt X x.toNat * wt Y y.toNat * (0 * u + 0 * v + c * w % p * u * v)) (wt g k * 0 * u + wt g k * 0 * v + wt g k * (c * (wt X x.toNat * wt Y y.toNat)) * u * v)
    refine (Cg.mul .refl (Cg.add .refl (Cg.mul (Cg.mul (Cg.mod.trans (Cg.mul .refl z)) .refl) .refl))).trans (.of_eq ?_)
    grind
def P1of (c : Cir) (b : Nat) (g : List Int) : List Int := pointT (g.take b) c.p
def gsof (c : Cir) (b l : Nat) (g : List Int) : List WG := wgts c.p (c.ls.getD l []) (pointT (g.drop b) c.p)
structure LayOK (c : Cir) (most wide b l : Nat) (B g : List Int) : Prop where
  ok : CirOK c most wide
  w3 : wide ≤ 3
  b3 : b ≤ 3
  hl : l < c.ls.length
  hB : InP c.p B
  bl : B.length = 2 ^ b * 2 ^ wN c (l + 1)
  hg : InP c.p g
  gl : g.length = b + wN c l
theorem LayOK.w {c : Cir} {most wide b l : Nat} {B g : List Int} (h : LayOK c most wide b l B g) : wN c (l + 1) ≤ 3 ∧ wN c l ≤ 3 := by
  have hwl := h.ok.wl
  have hl := h.hl
  have w3 := h.w3
  have e1 := wN_eq h.ok (i := l) (by omega)
  have e2 := wN_eq h.ok (i := l + 1) (by omega)
  have z1 := h.ok.w0 _ (gi_mem (show l < c.ws.length by omega))
  have z2 := h.ok.w0 _ (gi_mem (show l + 1 < c.ws.length by omega))
  omega
theorem LayOK.ctx {c : Cir} {most wide b l : Nat} {B g : List Int} (h : LayOK c most wide b l B g) : Ctx c.p (P1of c b g) B b (wN c (l + 1)) (gsof c b l g) := by
  have hl := h.hl
  have gg := h.ok.gg l hl
  have cl1 := colsN_eq (c := c) (i := l + 1)
  unfold colsC at cl1
  refine ⟨?_, h.bl, ?_⟩
  · unfold P1of
    rw [pointT_len, List.length_take, Nat.min_eq_left (by have := h.gl; omega)]
  · refine wgts_ok (n := 2 ^ wN c (l + 1)) h.ok.pm.1 fun q hq => ?_
    have := gg q hq
    rw [← cl1] at this
    exact this
theorem poly_eq {p : Int} {P1 B : List Int} {b w : Nat} {gs : List WG} (C : Ctx p P1 B b w gs) (hp1 : 2 ≤ p) {s : AS} {r : List Int} (hp : s.c.p = p) (hb : s.b = b) (hw : s.wide = w) (h : Inv s gs P1 ((List.range (2 ^ w)).map fun k => colT B b k) r) (hr : r.length < b + 2 * w) :
    polyF s = (List.range (if r.length < b then 4 else 3)).map fun t : Nat => sumF P1 B b w gs (r ++ [(t : Int)]) % p := by
  have er := h.base.round
  unfold polyF
  by_cases e : r.length < b
  · rw [if_pos (by omega), if_pos e]
    refine List.map_congr_left fun t _ => ?_
    have z := row_sum C hp hb hw h e (t : Int)
    have v : 0 ≤ rowV s t ∧ rowV s t < p := by unfold rowV; rw [hp]; exact mod_in hp1
    unfold Cg at z
    rw [← z, Int.emod_eq_of_lt v.1 v.2]
  · rw [if_neg (by omega), if_neg e]
    refine List.map_congr_left fun t _ => ?_
    have z : Cg p (colV s t) (sumF P1 B b w gs (r ++ [(t : Int)])) := by
      by_cases e2 : r.length < b + w
      · exact col_sum1 C hp hb hw h (by omega) e2 t
      · exact col_sum2 C hp hb hw h (by omega) hr t
    have v : 0 ≤ colV s t ∧ colV s t < p := by unfold colV; rw [hp]; exact mod_in hp1
    unfold Cg at z
    rw [← z, Int.emod_eq_of_lt v.1 v.2]
theorem line_eq {p : Int} {P1 B : List Int} {b w : Nat} {gs : List WG} (C : Ctx p P1 B b w gs) {s : AS} {r : List Int} (hp : s.c.p = p) (hb : s.b = b) (hw : s.wide = w) (h : Inv s gs P1 ((List.range (2 ^ w)).map fun k => colT B b k) r) (hr : r.length = b + 2 * w) :
    lineF s = (List.range (w + 1)).map fun t : Nat => mle B (r.take b ++ lineV ((r.drop b).take w) (r.drop (b + w)) (t : Nat) p) % p := by
  have hB := h.base
  have ph := h.two (by omega)
  have hbe := ph_below hp hb hB ph.toPhS
  have Rl : (r.take b).length = b := by rw [List.length_take]; omega
  have Xl : ((r.drop b).take w).length = w := by rw [List.length_take, List.length_drop]; omega
  have e1 : s.first = (r.drop b).take w := by rw [hB.first, hb, hw]
  have e2 : s.second = r.drop (b + w) := by rw [hB.second, hb, hw]; exact List.take_of_length_le (by rw [List.length_drop]; omega)
  have bl : s.below.length = 2 ^ w := by rw [hbe, List.length_map, List.length_range]
  unfold lineF
  rw [e1, Xl, e2, hp]
  refine List.map_congr_left fun t _ => ?_
  have ll : (lineV ((r.drop b).take w) (r.drop (b + w)) (t : Nat) p).length = w := by rw [lineV_len, Xl]
  generalize lineV ((r.drop b).take w) (r.drop (b + w)) (t : Nat) p = pt at *
  have z := mle_app (p := p) pt [] s.below (by rw [bl, List.length_nil, Nat.add_zero, ll])
  rw [List.append_nil, mle_nil] at z
  show gi (fl1 p pt s.below) 0 % p = _
  exact z.symm.trans (mleB_cg C.bl Rl ll hbe).symm
/-! ### the sums are polynomials -/
def Aff (f : Int → Int) : Prop := ∃ a b : Int, ∀ t, f t = a + b * t
theorem Aff.const (c : Int) : Aff fun _ => c := ⟨c, 0, fun t => by show c = c + 0 * t; omega⟩
theorem Aff.add {f g : Int → Int} : Aff f → Aff g → Aff fun t => f t + g t := fun ⟨a, b, h⟩ ⟨c, d, k⟩ => ⟨a + c, b + d, fun t => by show f t + g t = _; rw [h, k]; grind⟩
theorem Aff.smul {f : Int → Int} (c : Int) : Aff f → Aff fun t => c * f t := fun ⟨a, b, h⟩ => ⟨c * a, c * b, fun t => by show c * f t = _; rw [h]; grind⟩
theorem Aff.S {F : Nat → Int → Int} : ∀ n : Nat, (∀ i < n, Aff (F i)) → Aff fun t => Dl.S n fun i => F i t
  | 0, _ => .const 0
  | n + 1, h => (Aff.S n fun i hi => h i (by omega)).add (h n (by omega))
theorem Aff.pol {p : Int} {n : Nat} {f g : Int → Int} (hg : Pol p n g) : Aff f → Pol p (n + 1) fun t => f t * g t := fun ⟨a, b, h⟩ => (hg.lin a b).congr fun t => .of_eq (by rw [h])
theorem Aff.pol1 {p : Int} {f : Int → Int} (h : Aff f) : Pol p 1 f := (h.pol (Pol.const (p := p) (n := 0) 1)).congr fun t => .of_eq (by rw [Int.mul_one])
theorem wt_aff (s : List Int) : ∀ (r : List Int) (z : Nat), Aff fun t => wt (r ++ t :: s) z
  | [], z => by
    by_cases h : z % 2 = 1
    · refine ⟨0, wt s (z / 2), fun t => ?_⟩
      show (if z % 2 = 1 then t else 1 - t) * wt s (z / 2) = _
      rw [if_pos h]; grind
    · refine ⟨wt s (z / 2), -wt s (z / 2), fun t => ?_⟩
      show (if z % 2 = 1 then t else 1 - t) * wt s (z / 2) = _
      rw [if_neg h]; grind
  | x :: r, z => (wt_aff s r (z / 2)).smul (if z % 2 = 1 then x else 1 - x)
theorem mle_aff (T r s : List Int) : Aff fun t => mle T (r ++ t :: s) := by
  unfold mle
  simp only [List.length_append, List.length_cons]
  refine Aff.S _ fun z _ => ?_
  obtain ⟨a, b, h⟩ := (wt_aff s r z).smul (gi T (z : Nat))
  exact ⟨a, b, fun t => by rw [← h]; exact Int.mul_comm _ _⟩
theorem gF_pol1 {p : Int} (q : WG) {u : Int → Int} (hu : Aff u) (v : Int) : Pol p 1 fun t => gF q (u t) v := by
  refine ((((hu.smul (q.a + q.c * v)).add (.const (q.b * v))).pol1)).congr fun t => .of_eq ?_
  unfold gF; grind
theorem gF_pol1' {p : Int} (q : WG) (u : Int) {v : Int → Int} (hv : Aff v) : Pol p 1 fun t => gF q u (v t) := by
  refine ((((hv.smul (q.b + q.c * u)).add (.const (q.a * u))).pol1)).congr fun t => .of_eq ?_
  unfold gF; grind
theorem gF_pol2 {p : Int} (q : WG) {u v : Int → Int} (hu : Aff u) (hv : Aff v) : Pol p 2 fun t => gF q (u t) (v t) := by
  have h1 : Pol p 2 fun t => q.a * u t := ((hu.smul q.a).pol1).mono (by decide)
  have h2 : Pol p 2 fun t => v t * (q.b + q.c * u t) := hv.pol (((hu.smul q.c).add (.const q.b)).pol1.congr fun t => .of_eq (Int.add_comm _ _))
  refine (h1.add h2).congr fun t => .of_eq ?_
  unfold gF; grind
theorem wg_polR {p : Int} {gs : List WG} {X Y : List Int} {u v : Int → Int} (hu : Aff u) (hv : Aff v) : Pol p 2 fun t => WGsum gs X Y (u t) (v t) :=
  lsum_pol gs fun q _ => (gF_pol2 q hu hv).smul _
theorem wg_polX {p : Int} {gs : List WG} {x0 x1 Y : List Int} {u : Int → Int} {v : Int} (hu : Aff u) : Pol p 2 fun t => WGsum gs (x0 ++ t :: x1) Y (u t) v :=
  lsum_pol gs fun q _ => ((wt_aff x1 x0 q.x.toNat).pol ((gF_pol1 q hu v).smul (wt Y q.y.toNat))).congr fun t => .of_eq (Int.mul_assoc _ _ _)
theorem wg_polY {p : Int} {gs : List WG} {X y0 y1 : List Int} {u : Int} {v : Int → Int} (hv : Aff v) : Pol p 2 fun t => WGsum gs X (y0 ++ t :: y1) u (v t) :=
  lsum_pol gs fun q _ => ((wt_aff y1 y0 q.y.toNat).pol ((gF_pol1' q u hv).smul (wt X q.x.toNat))).congr fun t => .of_eq (by grind)
theorem Fsp_pol {p : Int} {P1 B : List Int} {b w : Nat} {gs : List WG} {r c : List Int} (h : r.length + 1 + c.length = b + 2 * w) : Pol p (if r.length < b then 3 else 2) fun t => Fsp P1 B b w gs (r ++ t :: c) := by
  by_cases e : r.length < b
  · rw [if_pos e]
    obtain ⟨c1, X, Y, rfl, h1, h2⟩ : ∃ c1 X Y, c = c1 ++ (X ++ Y) ∧ c1.length = b - r.length - 1 ∧ X.length = w := ⟨c.take (b - r.length - 1), (c.drop (b - r.length - 1)).take w, (c.drop (b - r.length - 1)).drop w, by rw [List.take_append_drop, List.take_append_drop], by rw [List.length_take]; omega, by rw [List.length_take, List.length_drop]; omega⟩
    have e1 : ∀ t, Fsp P1 B b w gs (r ++ t :: (c1 ++ (X ++ Y))) = mle P1 (r ++ t :: c1) * WGsum gs X Y (mle B (r ++ t :: (c1 ++ X))) (mle B (r ++ t :: (c1 ++ Y))) := fun t => by
      rw [show r ++ t :: (c1 ++ (X ++ Y)) = (r ++ t :: c1) ++ (X ++ Y) by simp, Fsp_parts (by rw [List.length_append, List.length_cons]; omega) h2]
      simp only [List.append_assoc, List.cons_append]
    exact ((mle_aff P1 r c1).pol (wg_polR (mle_aff B r (c1 ++ X)) (mle_aff B r (c1 ++ Y)))).congr fun t => .of_eq (e1 t)
  · rw [if_neg e]
    obtain ⟨R, z, rfl, hR⟩ : ∃ R z, r = R ++ z ∧ R.length = b := ⟨r.take b, r.drop b, (List.take_append_drop b r).symm, by rw [List.length_take]; omega⟩
    rw [List.length_append] at h
    by_cases e2 : z.length < w
    · obtain ⟨x1, Y, rfl, h1⟩ : ∃ x1 Y, c = x1 ++ Y ∧ x1.length = w - z.length - 1 := ⟨c.take (w - z.length - 1), c.drop (w - z.length - 1), (List.take_append_drop _ c).symm, by rw [List.length_take]; omega⟩
      have e1 : ∀ t, Fsp P1 B b w gs (R ++ z ++ t :: (x1 ++ Y)) = mle P1 R * WGsum gs (z ++ t :: x1) Y (mle B ((R ++ z) ++ t :: x1)) (mle B (R ++ Y)) := fun t => by
        rw [show R ++ z ++ t :: (x1 ++ Y) = R ++ ((z ++ t :: x1) ++ Y) by simp, Fsp_parts hR (by rw [List.length_append, List.length_cons]; omega)]
        simp only [List.append_assoc]
      exact ((wg_polX (mle_aff B (R ++ z) x1)).smul (mle P1 R)).congr fun t => .of_eq (e1 t)
    · obtain ⟨X, y, rfl, hX⟩ : ∃ X y, z = X ++ y ∧ X.length = w := ⟨z.take w, z.drop w, (List.take_append_drop w z).symm, by rw [List.length_take]; omega⟩
      have e1 : ∀ t, Fsp P1 B b w gs (R ++ (X ++ y) ++ t :: c) = mle P1 R * WGsum gs X (y ++ t :: c) (mle B (R ++ X)) (mle B ((R ++ y) ++ t :: c)) := fun t => by
        rw [show R ++ (X ++ y) ++ t :: c = R ++ (X ++ (y ++ t :: c)) by simp, Fsp_parts hR hX]
        simp only [List.append_assoc]
      exact ((wg_polY (mle_aff B (R ++ y) c)).smul (mle P1 R)).congr fun t => .of_eq (e1 t)
theorem sumF_pol {p : Int} {P1 B : List Int} {b w : Nat} {gs : List WG} {r : List Int} (h : r.length < b + 2 * w) : Pol p (if r.length < b then 3 else 2) fun t => sumF P1 B b w gs (r ++ [t]) := by
  unfold sumF
  simp only [List.length_append, List.length_cons, List.length_nil]
  refine Pol.sum _ fun k _ => ?_
  refine (Fsp_pol (P1 := P1) (B := B) (b := b) (w := w) (gs := gs) (r := r) (c := corn k (b + 2 * w - (r.length + (0 + 1)))) (by rw [corn_len]; omega)).congr fun t => .of_eq (by simp only [List.append_assoc, List.cons_append, List.nil_append])
theorem sumF_split {P1 B : List Int} {b w : Nat} {gs : List WG} {r : List Int} (h : r.length < b + 2 * w) : sumF P1 B b w gs r = sumF P1 B b w gs (r ++ [0]) + sumF P1 B b w gs (r ++ [1]) := by
  obtain ⟨m, hm⟩ : ∃ m, b + 2 * w - r.length = m + 1 := ⟨b + 2 * w - r.length - 1, by omega⟩
  have l : ∀ x : Int, (r ++ [x]).length = r.length + 1 := fun x => by rw [List.length_append]; rfl
  unfold sumF
  rw [l, l, show b + 2 * w - (r.length + 1) = m by omega, hm, Nat.pow_succ, Nat.mul_comm, S_pair, ← S_add]
  refine S_congr _ fun k _ => ?_
  rw [corn_succ, corn_succ, show 2 * k % 2 = 0 by omega, show 2 * k / 2 = k by omega, show (2 * k + 1) % 2 = 1 by omega, show (2 * k + 1) / 2 = k by omega]
  simp only [List.append_assoc, List.cons_append, List.nil_append]
  rfl
theorem sumF_full {P1 B : List Int} {b w : Nat} {gs : List WG} {r : List Int} (h : r.length = b + 2 * w) : sumF P1 B b w gs r = Fsp P1 B b w gs r := by
  unfold sumF
  rw [h, Nat.sub_self]
  show 0 + Fsp P1 B b w gs (r ++ corn 0 0) = _
  rw [show corn 0 0 = [] from rfl, List.append_nil, Int.zero_add]
theorem line_mle_pol {p : Int} {B R X Y : List Int} {b : Nat} (hR : R.length = b) : Pol p X.length fun t => mle B (R ++ lineV X Y t p) := by
  have h : Pol p X.length fun t => S (2 ^ X.length) fun z => wt (lineQ ((List.range X.length).map fun k => (gi X (k : Nat), gi Y (k : Nat) - gi X (k : Nat))) t) z * mle (colT B b z) R :=
    Pol.sum _ fun z _ => (((lineQ_pol (p := p) _ z).smul (mle (colT B b z) R)).mono (by simp)).congr fun t => .of_eq (Int.mul_comm _ _)
  refine h.congr fun t => ?_
  rw [mle_two hR, lineV_len]
  refine S_cg _ fun z _ => Cg.mul (wt_cg _ _ z ?_) .refl
  unfold lineV lineQ
  rw [List.map_map]
  exact all2_map (β := Int) _ fun k => Cg.mod.trans (.of_eq (by show _ = gi X (k : Nat) + (gi Y (k : Nat) - gi X (k : Nat)) * t; rw [Int.mul_comm t]))



/-! ### a layer's table is the sum over the layer below -/
/-! ### the answers as the sums say -/
def nextR (p : Int) (b w : Nat) (r : List Int) (t : Int) : List Int := r.take b ++ lineV ((r.drop b).take w) (r.drop (b + w)) t p
theorem lineV_0 {X Y : List Int} {p : Int} (hX : InP p X) : lineV X Y 0 p = X := by
  unfold lineV
  refine List.ext_getElem (by rw [List.length_map, List.length_range]) fun i h1 h2 => ?_
  have b := hX.gN h2
  rw [List.getElem_map, List.getElem_range, Int.zero_mul, Int.add_zero, Int.emod_eq_of_lt b.1 b.2, gi_nat, List.getD_eq_getElem?_getD, List.getElem?_eq_getElem h2]; rfl
theorem lineV_1 {X Y : List Int} {p : Int} (hY : InP p Y) (h : X.length = Y.length) : lineV X Y 1 p = Y := by
  unfold lineV
  refine List.ext_getElem (by rw [List.length_map, List.length_range, h]) fun i h1 h2 => ?_
  have b := hY.gN h2
  rw [List.getElem_map, List.getElem_range, Int.one_mul, show gi X (i : Nat) + (gi Y (i : Nat) - gi X (i : Nat)) = gi Y (i : Nat) by omega, Int.emod_eq_of_lt b.1 b.2, gi_nat, List.getD_eq_getElem?_getD, List.getElem?_eq_getElem h2]; rfl



/-! ### the weights of a layer -/
/-! ### the bluffer -/
structure BS where
  s : AS
  cl : List Int
  ch : List Int
  used : Nat
  claim : Int
  layer : Nat
  point : List Int
  throws : List Int
  sent : List Int
def blKeys : List String := ["honest", "circuit", "bits", "p", "claimed", "choices", "used", "claim", "layer", "point", "throws", "sent"]
class Fl_Bluffer (fl : String → List String) : Prop where
  honest : (fl "honest").contains "Bluffer" = true
  circuit : (fl "circuit").contains "Bluffer" = true
  bits : (fl "bits").contains "Bluffer" = true
  p : (fl "p").contains "Bluffer" = true
  claimed : (fl "claimed").contains "Bluffer" = true
  choices : (fl "choices").contains "Bluffer" = true
  used : (fl "used").contains "Bluffer" = true
  claim : (fl "claim").contains "Bluffer" = true
  layer : (fl "layer").contains "Bluffer" = true
  point : (fl "point").contains "Bluffer" = true
  throws : (fl "throws").contains "Bluffer" = true
  sent : (fl "sent").contains "Bluffer" = true
  abits : (fl "bits").contains "Answerer" = true
  ap : (fl "p").contains "Answerer" = true

set_option hygiene false in
local macro_rules | `(tactic| walk_at "bl") => `(tactic| (walk_at "dx"; (try simp only [dgTupG, dgsCons, dgsNil, dgFld, asT, dVar, List.length_cons, List.length_nil, List.getElem?_cons_zero, ob, obL, obh, hk, moI_ins, Fl_Bluffer.honest, Fl_Bluffer.circuit, Fl_Bluffer.bits, Fl_Bluffer.p, Fl_Bluffer.claimed, Fl_Bluffer.choices, Fl_Bluffer.used, Fl_Bluffer.claim, Fl_Bluffer.layer, Fl_Bluffer.point, Fl_Bluffer.throws, Fl_Bluffer.sent, Fl_Bluffer.abits, Fl_Bluffer.ap,
  List.getElem?_set_self, List.set_set, List.length_set, look_put, String.reduceEq, reduceIte, exists_eq_left', Option.some.injEq, true_and, and_true])))

structure BF (fs : List (String × D)) (h : Nat) (s : BS) : Prop where
  k : KeysOK blKeys fs
  cl : ∀ n, h < n → clF n fs = true
  honest : fs.lookup "honest" = some (.hnd h)
  circuit : fs.lookup "circuit" = some (cD s.s.c)
  bits : fs.lookup "bits" = some (.int (s.s.b : Nat))
  p : fs.lookup "p" = some (.int s.s.c.p)
  claimed : fs.lookup "claimed" = some (.lst (s.cl.map D.int))
  choices : fs.lookup "choices" = some (.lst (s.ch.map D.int))
  used : fs.lookup "used" = some (.int (s.used : Nat))
  claim : fs.lookup "claim" = some (.int s.claim)
def chF (ch : List Int) (p : Int) (u : Nat) : Int := if u < ch.length then gi ch (u : Nat) % p else 0
theorem BF.same {fs : List (String × D)} {h : Nat} {s s' : BS} (b : BF fs h s) (e1 : s'.s.c = s.s.c) (e2 : s'.s.b = s.s.b) (e : (s'.cl, s'.ch, s'.used, s'.claim) = (s.cl, s.ch, s.used, s.claim)) : BF fs h s' := by
  simp only [Prod.mk.injEq] at e
  obtain ⟨e3, e4, e5, e6⟩ := e
  exact ⟨b.k, b.cl, b.honest, by rw [e1]; exact b.circuit, by rw [e2]; exact b.bits, by rw [e1]; exact b.p, by rw [e3]; exact b.claimed, by rw [e4]; exact b.choices, by rw [e5]; exact b.used, by rw [e6]; exact b.claim⟩
def bThrow (s : BS) (z : Int) : BS := { s with s := throwF s.s z, claim := valV s.sent z s.s.c.p, throws := s.throws ++ [z] }
/-! ### the bluffer's polynomials -/
def blV (vs ch : List Int) (p : Int) (u : Nat) : List Int := (List.range vs.length).map fun i : Nat => (gi vs (i : Nat) + chF ch p (u + i)) % p
def bSent (s : BS) (vs : List Int) : List Int := (blV vs s.ch s.s.c.p s.used).set 1 ((s.claim - gi (blV vs s.ch s.s.c.p s.used) 0) % s.s.c.p)
def bPoly (s : BS) : BS := { s with s := polyS s.s, used := s.used + (polyF s.s).length, sent := bSent s (polyF s.s) }
def facV (s : BS) (w : Nat) (f : List Int → List Int → Gate → Int) : Int := nPl (s.point.take s.s.b) (s.throws.take s.s.b) * wS (s.s.c.ls.getD s.layer []) (s.point.drop s.s.b) (f ((s.throws.drop s.s.b).take w) (s.throws.drop (s.s.b + w))) (s.s.c.ls.getD s.layer []).length
/-! ### the bluffer's line -/
def bLine (a b c cl p fst : Int) : Nat → Nat → List Int → List Int
  | 0, _, T => T
  | n + 1, i, T => if T.length = 1 then if (a * ((fst + (i : Nat)) % p) + b * ((fst + (i : Nat)) % p) + c * ((fst + (i : Nat)) % p) * ((fst + (i : Nat)) % p) - cl) % p = 0 then T.set 0 ((fst + (i : Nat)) % p) else bLine a b c cl p fst n (i + 1) (T.set 0 ((fst + (i : Nat)) % p))
    else if (b + c * ((fst + (i : Nat)) % p)) % p ≠ 0 then (T.set 0 ((fst + (i : Nat)) % p)).set 1 ((cl - a * ((fst + (i : Nat)) % p)) * (((b + c * ((fst + (i : Nat)) % p)) % p) ^ (p - 2).toNat % p) % p)
    else if (a * ((fst + (i : Nat)) % p) - cl) % p = 0 then T.set 0 ((fst + (i : Nat)) % p) else bLine a b c cl p fst n (i + 1) (T.set 0 ((fst + (i : Nat)) % p))
def bLineR (s : BS) (w : Nat) : List Int := bLine (facV s w gA % s.s.c.p) (facV s w gB % s.s.c.p) (facV s w gC % s.s.c.p) s.claim s.s.c.p (gi (blV (lineF s.s) s.ch s.s.c.p s.used) 0) (min 50 s.s.c.p).toNat 0 (blV (lineF s.s) s.ch s.s.c.p s.used)
/-! ### the laws' own value of a polynomial; values at a point -/
/-! ### differences: a polynomial of n values goes on by sums alone -/
theorem gi_mapr {F : Nat → Int} {n j : Nat} (h : j < n) : gi ((List.range n).map F) (j : Nat) = F j := by
  rw [gi_nat, List.getD_eq_getElem?_getD, List.getElem?_map, List.getElem?_range h]; rfl
/-! ### the laws with larger numbers: draws -/
/-! ### all values of a polynomial -/
/-! ### objects of the class Bluffer or of a class under it -/
def blC (cn : String) : Prop := cn = "Bluffer" ∨ cn = "Guesser"
class Fl_B1 (fl : String → List String) (cn : String) : Prop where
  honest : (fl "honest").contains cn = true
  circuit : (fl "circuit").contains cn = true
  bits : (fl "bits").contains cn = true
  p : (fl "p").contains cn = true
  claimed : (fl "claimed").contains cn = true
  choices : (fl "choices").contains cn = true
  used : (fl "used").contains cn = true
  claim : (fl "claim").contains cn = true
  layer : (fl "layer").contains cn = true
  point : (fl "point").contains cn = true
  throws : (fl "throws").contains cn = true
  sent : (fl "sent").contains cn = true
  abits : (fl "bits").contains "Answerer" = true
  ap : (fl "p").contains "Answerer" = true
class Fl_BG (fl : String → List String) : Prop where
  honest1 : (fl "honest").contains "Bluffer" = true
  honest2 : (fl "honest").contains "Guesser" = true
  circuit1 : (fl "circuit").contains "Bluffer" = true
  circuit2 : (fl "circuit").contains "Guesser" = true
  bits1 : (fl "bits").contains "Bluffer" = true
  bits2 : (fl "bits").contains "Guesser" = true
  p1 : (fl "p").contains "Bluffer" = true
  p2 : (fl "p").contains "Guesser" = true
  claimed1 : (fl "claimed").contains "Bluffer" = true
  claimed2 : (fl "claimed").contains "Guesser" = true
  choices1 : (fl "choices").contains "Bluffer" = true
  choices2 : (fl "choices").contains "Guesser" = true
  used1 : (fl "used").contains "Bluffer" = true
  used2 : (fl "used").contains "Guesser" = true
  claim1 : (fl "claim").contains "Bluffer" = true
  claim2 : (fl "claim").contains "Guesser" = true
  layer1 : (fl "layer").contains "Bluffer" = true
  layer2 : (fl "layer").contains "Guesser" = true
  point1 : (fl "point").contains "Bluffer" = true
  point2 : (fl "point").contains "Guesser" = true
  throws1 : (fl "throws").contains "Bluffer" = true
  throws2 : (fl "throws").contains "Guesser" = true
  sent1 : (fl "sent").contains "Bluffer" = true
  sent2 : (fl "sent").contains "Guesser" = true
  abits : (fl "bits").contains "Answerer" = true
  ap : (fl "p").contains "Answerer" = true
theorem Fl_BG.of {fl : String → List String} {cn : String} (F : Fl_BG fl) (h : blC cn) : Fl_B1 fl cn := by
  rcases h with rfl | rfl
  · exact ⟨F.honest1, F.circuit1, F.bits1, F.p1, F.claimed1, F.choices1, F.used1, F.claim1, F.layer1, F.point1, F.throws1, F.sent1, F.abits, F.ap⟩
  · exact ⟨F.honest2, F.circuit2, F.bits2, F.p2, F.claimed2, F.choices2, F.used2, F.claim2, F.layer2, F.point2, F.throws2, F.sent2, F.abits, F.ap⟩

set_option hygiene false in
local macro_rules | `(tactic| walk_at "bl") => `(tactic| (walk_at "dx"; (try simp only [dgTupG, dgsCons, dgsNil, dgFld, asT, dVar, List.length_cons, List.length_nil, List.getElem?_cons_zero, ob, obL, obh, hk, moI_ins, Fl_B1.honest, Fl_B1.circuit, Fl_B1.bits, Fl_B1.p, Fl_B1.claimed, Fl_B1.choices, Fl_B1.used, Fl_B1.claim, Fl_B1.layer, Fl_B1.point, Fl_B1.throws, Fl_B1.sent, Fl_B1.abits, Fl_B1.ap,
  List.getElem?_set_self, List.set_set, List.length_set, look_put, String.reduceEq, reduceIte, exists_eq_left', Option.some.injEq, true_and, and_true])))

/-! ### hopeful polynomials; the guesser -/
def prV (gs : List Int) (p x : Int) : Int := gs.foldl (fun r g => r * (x - g) % p) 1
def whole (gs : List Int) (p : Int) : Int := (prV gs p 0 + prV gs p 1) % p
/-! ### the guesser's polynomials -/
/-! ### several claims about one table, joined -/
def oiD : Option Int → D
  | none => .non
  | some x => .int x
def ohD : Option Nat → D
  | none => .non
  | some k => .hnd k
def onP : Option (List Int × Int) → D
  | none => .non
  | some x => .lst (x.1.map D.int)
def onC : Option (List Int × Int) → D
  | none => .non
  | some x => .int x.2
def joinF (p : Int) (pts : List (List Int)) (cl : List Int) (mix : Option Int) (ks : Option Nat) (nx : Option (List Int × Int)) : List (String × D) :=
  [("p", .int p), ("points", .lst (pts.map intL)), ("claims", .lst (cl.map D.int)), ("mix", oiD mix), ("sums", ohD ks), ("next_point", onP nx), ("next_claim", onC nx)]
def onL : Option (List Int) → D
  | none => .non
  | some x => .lst (x.map D.int)
def jaF (p : Int) (tab : List Int) (pts : List (List Int)) (near : Option (List Int)) : List (String × D) :=
  [("p", .int p), ("table", .lst (tab.map D.int)), ("points", .lst (pts.map intL)), ("near", onL near)]
section
variable {p : Int} {pts : List (List Int)} {cl degs tab : List Int} {mix : Option Int} {ks : Option Nat} {nx : Option (List Int × Int)} {scl : Int} {j : Nat} {sent : Option (List Int)} {near : Option (List Int)}
theorem lkJ_p : List.lookup "p" (joinF p pts cl mix ks nx) = some (.int p) := rfl
theorem lkJ_points : List.lookup "points" (joinF p pts cl mix ks nx) = some (.lst (pts.map intL)) := rfl
theorem lkJ_claims : List.lookup "claims" (joinF p pts cl mix ks nx) = some (.lst (cl.map D.int)) := rfl
theorem lkJ_mix : List.lookup "mix" (joinF p pts cl mix ks nx) = some (oiD mix) := rfl
theorem lkJ_sums : List.lookup "sums" (joinF p pts cl mix ks nx) = some (ohD ks) := rfl
theorem lkJ_np : List.lookup "next_point" (joinF p pts cl mix ks nx) = some (onP nx) := rfl
theorem lkJ_nc : List.lookup "next_claim" (joinF p pts cl mix ks nx) = some (onC nx) := rfl
theorem lkS_sent : List.lookup "sent" (askF p scl degs j sent) = some (sentD sent) := rfl
theorem lkS_throws : List.lookup "throws" (askF p scl degs j sent) = some (.hnd j) := rfl
theorem lkS_claim : List.lookup "claim" (askF p scl degs j sent) = some (.int scl) := rfl
theorem lkA_p : List.lookup "p" (jaF p tab pts near) = some (.int p) := rfl
theorem lkA_table : List.lookup "table" (jaF p tab pts near) = some (.lst (tab.map D.int)) := rfl
theorem lkA_points : List.lookup "points" (jaF p tab pts near) = some (.lst (pts.map intL)) := rfl
theorem lkA_near : List.lookup "near" (jaF p tab pts near) = some (onL near) := rfl
end
class Fl_Join (fl : String → List String) : Prop where
  p : (fl "p").contains "Join" = true
  points : (fl "points").contains "Join" = true
  claims : (fl "claims").contains "Join" = true
  mix : (fl "mix").contains "Join" = true
  sums : (fl "sums").contains "Join" = true
  np : (fl "next_point").contains "Join" = true
  nc : (fl "next_claim").contains "Join" = true
  sent : (fl "sent").contains "SumAsker" = true
  throws : (fl "throws").contains "SumAsker" = true
  claim : (fl "claim").contains "SumAsker" = true
class Fl_JoinAnswerer (fl : String → List String) : Prop where
  p : (fl "p").contains "JoinAnswerer" = true
  table : (fl "table").contains "JoinAnswerer" = true
  points : (fl "points").contains "JoinAnswerer" = true
  near : (fl "near").contains "JoinAnswerer" = true


set_option hygiene false in
local macro_rules | `(tactic| walk_at "jn") => `(tactic| (walk_at "dx"; (try simp only [ob, obs, oiD, ohD, onP, onC, onL, sentD, moI_ins, lkJ_p, lkJ_points, lkJ_claims, lkJ_mix, lkJ_sums, lkJ_np, lkJ_nc, lkS_sent, lkS_throws, lkS_claim, lkA_p, lkA_table, lkA_points, lkA_near, Fl_Join.p, Fl_Join.points, Fl_Join.claims, Fl_Join.mix, Fl_Join.sums, Fl_Join.np, Fl_Join.nc, Fl_Join.sent, Fl_Join.throws, Fl_Join.claim, Fl_JoinAnswerer.p, Fl_JoinAnswerer.table, Fl_JoinAnswerer.points, Fl_JoinAnswerer.near, exists_eq_left', Option.some.injEq, true_and, and_true])))
set_option hygiene false in
local macro_rules | `(tactic| walk_at "jg") => `(tactic| (walk_at "dx"; (try simp only [ob, g1, g2, moI_ins, lkJ_p, lkJ_points, lkJ_claims, lkJ_mix, lkJ_sums, lkJ_np, lkJ_nc, lkS_sent, lkS_throws, lkS_claim, lkA_p, lkA_table, lkA_points, lkA_near, Fl_Join.p, Fl_Join.points, Fl_Join.claims, Fl_Join.mix, Fl_Join.sums, Fl_Join.np, Fl_Join.nc, Fl_Join.sent, Fl_Join.throws, Fl_Join.claim, Fl_JoinAnswerer.p, Fl_JoinAnswerer.table, Fl_JoinAnswerer.points, Fl_JoinAnswerer.near, exists_eq_left', Option.some.injEq, true_and, and_true])))

/-! ### the join's asker -/
def sD (s : String) : D := .str (PySem.Str.ofString s)
/-! ### the join's honest answerer -/
structure JaOK (m : MM) (k : Nat) (p : Int) (tab : List Int) (pts : List (List Int)) (near : Option (List Int)) : Prop where
  ob : m.M[k]? = some (.ins "JoinAnswerer" (jaF p tab pts near))
  pm : PM p
  tin : InP p tab
  tl : tab.length ≤ 65536
  nin : ∀ nr, near = some nr → InP p nr ∧ nr.length = tab.length
/-! ### the laws' own mix -/
theorem ne_obj {M : List MO} {i k : Nat} {a b : MO} (h1 : M[i]? = some a) (h2 : M[k]? = some b) (h : a ≠ b) : i ≠ k := fun e => by
  subst e
  rw [h1] at h2
  exact h (Option.some.inj h2)
theorem ins_ne {c d : String} {f g : List (String × D)} (h : c ≠ d) : MO.ins c f ≠ MO.ins d g := fun e => by
  injection e with e1
  exact h e1
theorem lst_ne {c : String} {f : List (String × D)} {l : List D} : MO.ins c f ≠ MO.lst l := fun e => by cases e
theorem JaOK.keep {M M' : List MO} {s s' : Nat} {k : Nat} {p : Int} {tab : List Int} {pts : List (List Int)} {near : Option (List Int)} (a : JaOK ⟨M, s⟩ k p tab pts near) (h : M'[k]? = M[k]?) : JaOK ⟨M', s'⟩ k p tab pts near :=
  ⟨by show M'[k]? = _; rw [h]; exact a.ob, a.pm, a.tin, a.tl, a.nin⟩
/-! ### plain law of joins -/
open PySem L2 PyProof.Rows
/-! ### a list as a test -/
section
variable {X : Cx} {E : WX}
end

/-! ### a bluffer with a true claim and no choices answers honestly -/
theorem valV_polR {p z : Int} (P : Prim p) {n : Nat} {f : Int → Int} (hf : Pol p n f) (hn : ((n + 1 : Nat) : Int) ≤ p) (z0 : 0 ≤ z) : valV ((List.range (n + 1)).map fun t : Nat => f (t : Nat) % p) z p = f z % p := by
  obtain ⟨cs, c1, c2⟩ := hf
  have e : ((List.range (n + 1)).map fun t : Nat => f (t : Nat) % p) = vals cs (n + 1) p := by
    unfold vals
    exact List.map_congr_left fun t _ => c2 _
  rw [e, valV_pev P c1 (by omega) hn z0]
  exact (c2 z).symm
theorem blV_nil {p : Int} {vs : List Int} {u : Nat} (vin : InP p vs) : blV vs [] p u = vs := by
  unfold blV
  refine List.ext_getElem (by rw [List.length_map, List.length_range]) fun i h1 h2 => ?_
  have z := vin.gN (i := i) h2
  have e : chF [] p (u + i) = 0 := if_neg (by show ¬ (u + i < 0); omega)
  rw [List.getElem_map, List.getElem_range, e, Int.add_zero, Int.emod_eq_of_lt z.1 z.2, gi_nat, List.getD_eq_getElem?_getD, List.getElem?_eq_getElem h2]
  rfl
theorem set_gi {T : List Int} {i : Nat} {v : Int} (h : i < T.length) (e : v = gi T (i : Nat)) : T.set i v = T := by
  rw [e, gi_nat, List.getD_eq_getElem?_getD, List.getElem?_eq_getElem h]
  exact List.set_getElem_self h
theorem bSent_hon {p : Int} {t : BS} {vs : List Int} (hp1 : 2 ≤ p) (hp : t.s.c.p = p) (hch : t.ch = []) (vin : InP p vs) (hl : 2 ≤ vs.length) (hcl : t.claim = (gi vs 0 + gi vs 1) % p) : bSent t vs = vs := by
  unfold bSent
  rw [hch, hp, blV_nil vin]
  refine set_gi (by omega) ?_
  have z := vin.gN (i := 1) (by omega)
  have c : Cg p (t.claim - gi vs 0) (gi vs ((1 : Nat) : Int)) := by
    rw [hcl]
    exact (Cg.sub Cg.mod .refl).trans (.of_eq (by show gi vs 0 + gi vs 1 - gi vs 0 = gi vs 1; omega))
  unfold Cg at c
  rw [c, Int.emod_eq_of_lt z.1 z.2]
theorem bLine_hon {a b c cl p : Int} (P : Prim p) (hp1 : 2 ≤ p) {T : List Int} (Tin : InP p T) (h0 : 0 < T.length) (n : Nat)
    (fit : Cg p (a * gi T 0 + b * (if T.length = 1 then gi T 0 else gi T 1) + c * gi T 0 * (if T.length = 1 then gi T 0 else gi T 1)) cl) : bLine a b c cl p (gi T 0) (n + 1) 0 T = T := by
  have u0 := Tin.gi (z := 0) (by decide) (by omega)
  have eu : (gi T 0 + ((0 : Nat) : Int)) % p = gi T 0 := by rw [show gi T 0 + ((0 : Nat) : Int) = gi T 0 by omega, Int.emod_eq_of_lt u0.1 u0.2]
  have s0 : T.set 0 (gi T 0) = T := set_gi h0 rfl
  unfold bLine
  rw [eu, s0]
  generalize hu : gi T 0 = u at *
  by_cases e : T.length = 1
  · rw [if_pos e]
    rw [if_pos e] at fit
    have z : Cg p (a * u + b * u + c * u * u - cl) 0 := (Cg.sub fit .refl).trans (.of_eq (by omega))
    unfold Cg at z
    rw [if_pos (by rw [z, Int.zero_emod])]
  · rw [if_neg e]
    rw [if_neg e] at fit
    have v1 := Tin.gi (z := 1) (by decide) (by omega)
    generalize hv : gi T 1 = v at *
    by_cases e2 : (b + c * u) % p ≠ 0
    · rw [if_pos e2]
      refine set_gi (by omega) ?_
      have nb : ¬ Cg p ((b + c * u) % p) 0 := fun z => e2 (by
        unfold Cg at z
        rw [Int.emod_emod_of_dvd _ (Int.dvd_refl _), Int.zero_emod] at z
        exact z)
      have fi := fermat_inv P nb
      have k1 : Cg p (cl - a * u) (v * (b + c * u)) := (Cg.sub fit.symm .refl).trans (.of_eq (by grind))
      have k2 : Cg p ((cl - a * u) * (((b + c * u) % p) ^ (p - 2).toNat % p)) v := by
        refine (Cg.mul k1 Cg.mod).trans ?_
        have f2 : Cg p ((b + c * u) * ((b + c * u) % p) ^ (p - 2).toNat) 1 := (Cg.mul Cg.mod.symm .refl).trans ((Cg.of_eq (Int.mul_comm _ _)).trans fi)
        refine Cg.trans (b := v * ((b + c * u) * ((b + c * u) % p) ^ (p - 2).toNat)) (.of_eq (Int.mul_assoc _ _ _)) ?_
        exact (Cg.mul .refl f2).trans (.of_eq (Int.mul_one _))
      unfold Cg at k2
      rw [k2, Int.emod_eq_of_lt v1.1 v1.2]
      exact hv.symm
    · rw [if_neg e2]
      have e2 : Cg p (b + c * u) 0 := by
        unfold Cg
        rw [Int.zero_emod]
        exact Classical.byContradiction fun z => e2 z
      have z : Cg p (a * u - cl) 0 := by
        refine (Cg.sub .refl fit.symm).trans (Cg.trans (b := (b + c * u) * (0 - v)) (.of_eq (by grind)) ((Cg.mul e2 .refl).trans (.of_eq (Int.zero_mul _))))
      unfold Cg at z
      rw [if_pos (by rw [z, Int.zero_emod])]
/-- a bluffer that has told the truth so far in its layer -/
structure BH (c : Cir) (b l : Nat) (B g : List Int) (t : BS) (r : List Int) : Prop where
  sc : t.s.c = c
  sb : t.s.b = b
  sw : t.s.wide = wN c (l + 1)
  iv : Inv t.s (gsof c b l g) (P1of c b g) ((List.range (2 ^ wN c (l + 1))).map fun k => colT B b k) r
  ch : t.ch = []
  cl : t.claim = sumF (P1of c b g) B b (wN c (l + 1)) (gsof c b l g) r % c.p
  ly : t.layer = l
  pt : t.point = g
  th : t.throws = r
section
variable {c : Cir} {most wide b l : Nat} {B g r : List Int} {t : BS}
theorem BH.vals (L : LayOK c most wide b l B g) (h : BH c b l B g t r) (hr : r.length < b + 2 * wN c (l + 1)) : ∃ d : Nat, (2 ≤ d ∧ d ≤ 3) ∧ Pol c.p d (fun z => sumF (P1of c b g) B b (wN c (l + 1)) (gsof c b l g) (r ++ [z])) ∧ polyF t.s = (List.range (d + 1)).map fun z : Nat => sumF (P1of c b g) B b (wN c (l + 1)) (gsof c b l g) (r ++ [((z : Nat) : Int)]) % c.p := by
  have pe := poly_eq L.ctx L.ok.pm.1 (by rw [h.sc]) h.sb h.sw h.iv hr
  have pol := sumF_pol (p := c.p) (P1 := P1of c b g) (B := B) (gs := gsof c b l g) hr
  by_cases e : r.length < b
  · rw [if_pos e] at pe pol
    exact ⟨3, ⟨by decide, by decide⟩, pol, pe⟩
  · rw [if_neg e] at pe pol
    exact ⟨2, ⟨by decide, by decide⟩, pol, pe⟩
theorem BH.poly (L : LayOK c most wide b l B g) (h : BH c b l B g t r) (hr : r.length < b + 2 * wN c (l + 1)) : bSent t (polyF t.s) = polyF t.s := by
  obtain ⟨d, d2, pol, pe⟩ := h.vals L hr
  have hp1 := L.ok.pm.1
  have g0 : gi (polyF t.s) 0 = sumF (P1of c b g) B b (wN c (l + 1)) (gsof c b l g) (r ++ [0]) % c.p := by rw [pe]; exact gi_mapr (j := 0) (by omega)
  have g1 : gi (polyF t.s) 1 = sumF (P1of c b g) B b (wN c (l + 1)) (gsof c b l g) (r ++ [1]) % c.p := by rw [pe]; exact gi_mapr (j := 1) (by omega)
  refine bSent_hon hp1 (by rw [h.sc]) h.ch (fun x hx => ?_) (by rw [pe, List.length_map, List.length_range]; omega) ?_
  · rw [pe] at hx
    obtain ⟨_, _, rfl⟩ := List.mem_map.mp hx
    exact mod_in hp1
  · rw [h.cl, g0, g1, sumF_split hr]
    exact (Cg.add Cg.mod Cg.mod).symm
theorem BH.step (L : LayOK c most wide b l B g) (p5 : 5 ≤ c.p) (h : BH c b l B g t r) (hr : r.length < b + 2 * wN c (l + 1)) {z : Int} (z0 : 0 ≤ z) : BH c b l B g (bThrow (bPoly t) z) (r ++ [z]) := by
  have tr := throw_r (polyS t.s) z
  have bp := h.poly L hr
  obtain ⟨d, d2, pol, pe⟩ := h.vals L hr
  refine ⟨tr.2.2.c.trans h.sc, tr.2.2.b.trans h.sb, tr.2.1.trans h.sw, throw_inv (poly_inv h.iv) (by show r.length < t.s.b + 2 * t.s.wide; rw [h.sb, h.sw]; exact hr), h.ch, ?_, h.ly, h.pt, by show t.throws ++ [z] = _; rw [h.th]⟩
  show valV (bSent t (polyF t.s)) z t.s.c.p = _
  rw [bp, h.sc, pe]
  exact valV_polR L.ok.pr pol (by omega) z0
theorem BH.line (L : LayOK c most wide b l B g) (h : BH c b l B g t r) (rin : InP c.p r) (hr : r.length = b + 2 * wN c (l + 1)) : bLineR t (wN c (l + 1)) = lineF t.s := by
  have hp1 := L.ok.pm.1
  have le := line_eq L.ctx (by rw [h.sc]) h.sb h.sw h.iv hr
  obtain ⟨w, hw⟩ : ∃ w, w = wN c (l + 1) := ⟨_, rfl⟩
  have hcl := h.cl
  rw [← hw] at le hr hcl ⊢
  obtain ⟨V, hV⟩ : ∃ V, V = lineF t.s := ⟨_, rfl⟩
  rw [← hV] at le ⊢
  have Vl : V.length = w + 1 := by rw [le, List.length_map, List.length_range]
  have Vin : InP c.p V := fun x hx => by
    rw [le] at hx
    obtain ⟨_, _, rfl⟩ := List.mem_map.mp hx
    exact mod_in hp1
  obtain ⟨n, hn⟩ : ∃ n, (min 50 t.s.c.p).toNat = n + 1 := ⟨(min 50 t.s.c.p).toNat - 1, by rw [h.sc]; omega⟩
  unfold bLineR
  rw [hn, ← hV, h.ch, h.sc, blV_nil Vin]
  have Rl : (r.take b).length = b := by rw [List.length_take]; omega
  have Xl : ((r.drop b).take w).length = w := by rw [List.length_take, List.length_drop]; omega
  have Yl : (r.drop (b + w)).length = w := by rw [List.length_drop]; omega
  have Xin : InP c.p ((r.drop b).take w) := fun x hx => rin x (List.mem_of_mem_drop (List.mem_of_mem_take hx))
  have Yin : InP c.p (r.drop (b + w)) := fun x hx => rin x (List.mem_of_mem_drop hx)
  have u : gi V 0 = mle B (r.take b ++ (r.drop b).take w) % c.p := by
    rw [le]
    have z := gi_mapr (F := fun t : Nat => mle B (r.take b ++ lineV ((r.drop b).take w) (r.drop (b + w)) (t : Nat) c.p) % c.p) (n := w + 1) (j := 0) (by omega)
    rw [show lineV ((r.drop b).take w) (r.drop (b + w)) ((0 : Nat) : Int) c.p = (r.drop b).take w from lineV_0 Xin] at z
    exact z
  have v : (if V.length = 1 then gi V 0 else gi V 1) = mle B (r.take b ++ r.drop (b + w)) % c.p := by
    by_cases e : V.length = 1
    · have w0 : w = 0 := by omega
      rw [if_pos e, u]
      have e1 : (r.drop b).take w = [] := List.length_eq_zero_iff.mp (by rw [Xl, w0])
      have e2 : r.drop (b + w) = [] := List.length_eq_zero_iff.mp (by rw [Yl, w0])
      rw [e1, e2]
    · rw [if_neg e, le]
      have z := gi_mapr (F := fun t : Nat => mle B (r.take b ++ lineV ((r.drop b).take w) (r.drop (b + w)) (t : Nat) c.p) % c.p) (n := w + 1) (j := 1) (by omega)
      rw [show lineV ((r.drop b).take w) (r.drop (b + w)) ((1 : Nat) : Int) c.p = r.drop (b + w) from lineV_1 Yin (by rw [Xl, Yl])] at z
      exact z
  refine bLine_hon L.ok.pr hp1 Vin (by omega) n ?_
  rw [v, u, hcl, sumF_full hr]
  have full : r = r.take b ++ ((r.drop b).take w ++ r.drop (b + w)) := by
    rw [← List.drop_drop, List.take_append_drop, List.take_append_drop]
  have fp := Fsp_parts (P1 := P1of c b g) (B := B) (b := b) (w := w) (gs := gsof c b l g) (R := r.take b) (X := (r.drop b).take w) (Y := r.drop (b + w)) Rl Xl
  rw [← full] at fp
  rw [fp]
  have gl := L.gl
  have hll := L.ok.ll l L.hl
  have lln : (c.ls.getD l []).length = 2 ^ (g.drop b).length := by
    have : (((c.ls.getD l []).length : Nat) : Int) = ((2 ^ wN c l : Nat) : Int) := by
      rw [hll, Int.natCast_pow]; rfl
    rw [List.length_drop, gl, Nat.add_sub_cancel_left]
    omega
  have ws := wg_ws (p := c.p) (l := c.ls.getD l []) (g := g.drop b) (X := (r.drop b).take w) (Y := r.drop (b + w)) (u := mle B (r.take b ++ (r.drop b).take w)) (v := mle B (r.take b ++ r.drop (b + w))) lln
  have np : Cg c.p (mle (P1of c b g) (r.take b)) (nPl (g.take b) (r.take b)) := mle_pointT (by rw [Rl, List.length_take]; omega)
  refine Cg.trans ?_ ((Cg.mul np.symm ws.symm).trans Cg.mod.symm)
  unfold facV
  rw [h.pt, h.th, h.sb, h.sc, h.ly]
  generalize wS (c.ls.getD l []) (g.drop b) (gA ((r.drop b).take w) (r.drop (b + w))) (c.ls.getD l []).length = A
  generalize wS (c.ls.getD l []) (g.drop b) (gB ((r.drop b).take w) (r.drop (b + w))) (c.ls.getD l []).length = B1
  generalize wS (c.ls.getD l []) (g.drop b) (gC ((r.drop b).take w) (r.drop (b + w))) (c.ls.getD l []).length = C1
  generalize nPl (g.take b) (r.take b) = N
  generalize mle B (r.take b ++ (r.drop b).take w) = U
  generalize mle B (r.take b ++ r.drop (b + w)) = V1
  refine (Cg.add (Cg.add (Cg.mul Cg.mod Cg.mod) (Cg.mul Cg.mod Cg.mod)) (Cg.mul (Cg.mul Cg.mod Cg.mod) Cg.mod)).trans (.of_eq ?_)
  grind
theorem BH.last (L : LayOK c most wide b l B g) (p5 : 5 ≤ c.p) (w3 : wN c (l + 1) ≤ 3) (h : BH c b l B g t r) (hr : r.length = b + 2 * wN c (l + 1)) {z : Int} (z0 : 0 ≤ z) : valV (lineF t.s) z c.p = mle B (nextR c.p b (wN c (l + 1)) r z) % c.p := by
  have le := line_eq L.ctx (by rw [h.sc]) h.sb h.sw h.iv hr
  rw [le]
  have Rl : (r.take b).length = b := by rw [List.length_take]; omega
  have Xl : ((r.drop b).take (wN c (l + 1))).length = wN c (l + 1) := by rw [List.length_take, List.length_drop]; omega
  have pol := line_mle_pol (p := c.p) (B := B) (X := (r.drop b).take (wN c (l + 1))) (Y := r.drop (b + wN c (l + 1))) Rl
  rw [Xl] at pol
  exact valV_polR L.ok.pr pol (by omega) z0
end


set_option hygiene false in
local macro_rules | `(tactic| walk_at "bl") => `(tactic| (walk_at "dx"; (try simp only [dgTupG, dgsCons, dgsNil, dgFld, asT, dVar, List.length_cons, List.length_nil, List.getElem?_cons_zero, ob, obL, obh, hk, moI_ins, Fl_Bluffer.honest, Fl_Bluffer.circuit, Fl_Bluffer.bits, Fl_Bluffer.p, Fl_Bluffer.claimed, Fl_Bluffer.choices, Fl_Bluffer.used, Fl_Bluffer.claim, Fl_Bluffer.layer, Fl_Bluffer.point, Fl_Bluffer.throws, Fl_Bluffer.sent, Fl_Bluffer.abits, Fl_Bluffer.ap,
  List.getElem?_set_self, List.set_set, List.length_set, look_put, String.reduceEq, reduceIte, exists_eq_left', Option.some.injEq, true_and, and_true])))

/-! ### the answers of an answerer or of a bluffer that tells the truth -/
class Fl_AB (fl : String → List String) : Prop where
  circuit : (fl "circuit").contains "Answerer" = true
  tables : (fl "tables").contains "Answerer" = true
  bits : (fl "bits").contains "Answerer" = true
  p : (fl "p").contains "Answerer" = true
  steps : (fl "steps").contains "Answerer" = true
  layer : (fl "layer").contains "Answerer" = true
  round : (fl "round").contains "Answerer" = true
  wide : (fl "wide").contains "Answerer" = true
  gates : (fl "gates").contains "Answerer" = true
  near : (fl "near").contains "Answerer" = true
  columns : (fl "columns").contains "Answerer" = true
  first : (fl "first").contains "Answerer" = true
  second : (fl "second").contains "Answerer" = true
  share : (fl "share").contains "Answerer" = true
  below : (fl "below").contains "Answerer" = true
  factors : (fl "factors").contains "Answerer" = true
  rest : (fl "rest").contains "Answerer" = true
  left : (fl "left").contains "Answerer" = true
  bbits : (fl "bits").contains "Bluffer" = true
  bcircuit : (fl "circuit").contains "Bluffer" = true
  bp : (fl "p").contains "Bluffer" = true
theorem Fl_AB.a {fl : String → List String} (F : Fl_AB fl) : Fl_Answerer fl := ⟨F.circuit, F.tables, F.bits, F.p, F.steps, F.layer, F.round, F.wide, F.gates, F.near, F.columns, F.first, F.second, F.share, F.below, F.factors, F.rest, F.left⟩
/-! ### one layer's claim turned into one about the next layer -/
def tuF (c : Cir) (l b : Nat) (g : List Int) (ks : Nat) (line : Option (List Int)) (nx : Option (List Int × Int)) : List (String × D) :=
  [("p", .int c.p), ("gates", lD (c.ls.getD l [])), ("dims", .int (b : Nat)), ("width", .int (wN c (l + 1) : Nat)), ("point", .lst (g.map D.int)), ("sums", .hnd ks), ("line", onL line), ("next_point", onP nx), ("next_claim", onC nx)]
section
variable {c : Cir} {l b ks : Nat} {g : List Int} {line : Option (List Int)} {nx : Option (List Int × Int)}
theorem lkT_p : List.lookup "p" (tuF c l b g ks line nx) = some (.int c.p) := rfl
theorem lkT_gates : List.lookup "gates" (tuF c l b g ks line nx) = some (lD (c.ls.getD l [])) := rfl
theorem lkT_dims : List.lookup "dims" (tuF c l b g ks line nx) = some (.int (b : Nat)) := rfl
theorem lkT_width : List.lookup "width" (tuF c l b g ks line nx) = some (.int (wN c (l + 1) : Nat)) := rfl
theorem lkT_point : List.lookup "point" (tuF c l b g ks line nx) = some (.lst (g.map D.int)) := rfl
theorem lkT_sums : List.lookup "sums" (tuF c l b g ks line nx) = some (.hnd ks) := rfl
theorem lkT_line : List.lookup "line" (tuF c l b g ks line nx) = some (onL line) := rfl
theorem lkT_np : List.lookup "next_point" (tuF c l b g ks line nx) = some (onP nx) := rfl
theorem lkT_nc : List.lookup "next_claim" (tuF c l b g ks line nx) = some (onC nx) := rfl
end
class Fl_Turn (fl : String → List String) : Prop where
  p : (fl "p").contains "Turn" = true
  gates : (fl "gates").contains "Turn" = true
  dims : (fl "dims").contains "Turn" = true
  width : (fl "width").contains "Turn" = true
  point : (fl "point").contains "Turn" = true
  sums : (fl "sums").contains "Turn" = true
  line : (fl "line").contains "Turn" = true
  np : (fl "next_point").contains "Turn" = true
  nc : (fl "next_claim").contains "Turn" = true
  sent : (fl "sent").contains "SumAsker" = true
  throws : (fl "throws").contains "SumAsker" = true
  claim : (fl "claim").contains "SumAsker" = true


set_option hygiene false in
local macro_rules | `(tactic| walk_at "tu") => `(tactic| (walk_at "dx"; (try simp only [ob, obs, onP, onC, onL, sentD, moI_ins, lkT_p, lkT_gates, lkT_dims, lkT_width, lkT_point, lkT_sums, lkT_line, lkT_np, lkT_nc, lkS_sent, lkS_throws, lkS_claim, Fl_Turn.p, Fl_Turn.gates, Fl_Turn.dims, Fl_Turn.width, Fl_Turn.point, Fl_Turn.sums, Fl_Turn.line, Fl_Turn.np, Fl_Turn.nc, Fl_Turn.sent, Fl_Turn.throws, Fl_Turn.claim, exists_eq_left', Option.some.injEq, true_and, and_true])))
set_option hygiene false in
local macro_rules | `(tactic| walk_at "tg") => `(tactic| (walk_at "dx"; (try simp only [ob, g1, g2, onP, onC, onL, sentD, moI_ins, lkT_p, lkT_gates, lkT_dims, lkT_width, lkT_point, lkT_sums, lkT_line, lkT_np, lkT_nc, lkS_sent, lkS_throws, lkS_claim, Fl_Turn.p, Fl_Turn.gates, Fl_Turn.dims, Fl_Turn.width, Fl_Turn.point, Fl_Turn.sums, Fl_Turn.line, Fl_Turn.np, Fl_Turn.nc, Fl_Turn.sent, Fl_Turn.throws, Fl_Turn.claim, exists_eq_left', Option.some.injEq, true_and, and_true])))

def degsT (b w : Nat) : List Int := List.replicate b 3 ++ List.replicate (2 * w) 2
/-- a turn -/
structure TuB (m : MM) (k ks j : Nat) (c : Cir) (most wide l b : Nat) (g : List Int) (C : Int) (ths : List Int) (sent line : Option (List Int)) (nx : Option (List Int × Int)) : Prop where
  ob : m.M[k]? = some (.ins "Turn" (tuF c l b g ks line nx))
  a : Ask m ks j c.p C (degsT b (wN c (l + 1))) ths sent
  hc : CirOK c most wide
  w8 : wide ≤ 16
  b8 : b ≤ 100
  hl : l < c.ls.length
  gin : InP c.p g
  gl : g.length = b + wN c l
  tin : InP c.p ths
def wtV (c : Cir) (l b : Nat) (g ths : List Int) (f : List Int → List Int → Gate → Int) : Int := nPl (g.take b) (ths.take b) * wS (c.ls.getD l []) (g.drop b) (f ((ths.drop b).take (wN c (l + 1))) (ths.drop (b + wN c (l + 1)))) (c.ls.getD l []).length
def expV (c : Cir) (l b : Nat) (g ths : List Int) (u v : Int) : Int := (wtV c l b g ths gA * u + wtV c l b g ths gB * v + wtV c l b g ths gC * u * v) % c.p
def lineC (c : Cir) (l b : Nat) (g : List Int) (C : Int) (ths vs : List Int) : Bool := decide (vs.length = wN c (l + 1) + 1) && (vs.all (fun v => decide (0 ≤ v ∧ v < c.p)) && decide (expV c l b g ths (gi vs 0) (gi vs ((min 1 (wN c (l + 1)) : Nat) : Int)) = C))
def nxtG (c : Cir) (l b : Nat) (ths : List Int) (t : Int) : List Int := ths.take b ++ lineV ((ths.drop b).take (wN c (l + 1))) (ths.drop (b + wN c (l + 1))) t c.p
/-! ### a changing list in a field that will not change any more -/
/-! ### x in (y, z), of flat things -/
/-! ### tables of rows, counts of a conversation -/
def inT (R : List (List Int)) (cols : Nat) : List Int := (List.range cols).flatMap fun g => R.map fun r => gi r (g : Nat)
def flatA (A : List (List (List Int) × List Int)) : List (List Int) := A.flatMap fun a => a.1 ++ [a.2]
/-! ### the asker of a whole conversation -/
inductive RS where
  | bel | round (l k : Nat) | lineE (l : Nat) | inpE (l : Nat)
def rsD : RS → D
  | .bel => .tup [sD "believed"]
  | .round l k => .tup [sD "refused", .int (l : Nat), .int (k : Nat)]
  | .lineE l => .tup [sD "refused", .int (l : Nat), sD "end"]
  | .inpE l => .tup [sD "refused", .int (l : Nat), sD "inputs"]
def orD : Option RS → D
  | none => .non
  | some r => rsD r
def akF (c : Cir) (b : Nat) (inp out : List Int) (f : D) (kt : Option Nat) (l k : Nat) (r : Option RS) (w : Int) : List (String × D) :=
  [("circuit", cD c), ("p", .int c.p), ("widths", .lst (c.ws.map D.int)), ("dims", .int (b : Nat)), ("inputs", .lst (inp.map D.int)), ("outputs", .lst (out.map D.int)), ("first", f), ("turn", ohD kt), ("layer", .int (l : Nat)), ("step", .int (k : Nat)), ("result", orD r), ("work", .int w)]
section
variable {c : Cir} {b : Nat} {inp out : List Int} {f : D} {kt : Option Nat} {l k : Nat} {r : Option RS} {w : Int}
theorem lkK_circuit : List.lookup "circuit" (akF c b inp out f kt l k r w) = some (cD c) := rfl
theorem lkK_p : List.lookup "p" (akF c b inp out f kt l k r w) = some (.int c.p) := rfl
theorem lkK_widths : List.lookup "widths" (akF c b inp out f kt l k r w) = some (.lst (c.ws.map D.int)) := rfl
theorem lkK_dims : List.lookup "dims" (akF c b inp out f kt l k r w) = some (.int (b : Nat)) := rfl
theorem lkK_inputs : List.lookup "inputs" (akF c b inp out f kt l k r w) = some (.lst (inp.map D.int)) := rfl
theorem lkK_outputs : List.lookup "outputs" (akF c b inp out f kt l k r w) = some (.lst (out.map D.int)) := rfl
theorem lkK_first : List.lookup "first" (akF c b inp out f kt l k r w) = some (f) := rfl
theorem lkK_turn : List.lookup "turn" (akF c b inp out f kt l k r w) = some (ohD kt) := rfl
theorem lkK_layer : List.lookup "layer" (akF c b inp out f kt l k r w) = some (.int (l : Nat)) := rfl
theorem lkK_step : List.lookup "step" (akF c b inp out f kt l k r w) = some (.int (k : Nat)) := rfl
theorem lkK_result : List.lookup "result" (akF c b inp out f kt l k r w) = some (orD r) := rfl
theorem lkK_work : List.lookup "work" (akF c b inp out f kt l k r w) = some (.int w) := rfl
end
class Fl_Asker (fl : String → List String) : Prop where
  circuit : (fl "circuit").contains "Asker" = true
  p : (fl "p").contains "Asker" = true
  widths : (fl "widths").contains "Asker" = true
  dims : (fl "dims").contains "Asker" = true
  inputs : (fl "inputs").contains "Asker" = true
  outputs : (fl "outputs").contains "Asker" = true
  first : (fl "first").contains "Asker" = true
  turn : (fl "turn").contains "Asker" = true
  layer : (fl "layer").contains "Asker" = true
  step : (fl "step").contains "Asker" = true
  result : (fl "result").contains "Asker" = true
  work : (fl "work").contains "Asker" = true
  sums : (fl "sums").contains "Turn" = true
  line : (fl "line").contains "Turn" = true
  np : (fl "next_point").contains "Turn" = true
  nc : (fl "next_claim").contains "Turn" = true
  sent : (fl "sent").contains "SumAsker" = true


set_option hygiene false in
local macro_rules | `(tactic| walk_at "as") => `(tactic| (walk_at "dx"; (try simp only [ob, obt, obs, ohD, orD, onP, onC, onL, sentD, moI_ins, lkK_circuit, lkK_p, lkK_widths, lkK_dims, lkK_inputs, lkK_outputs, lkK_first, lkK_turn, lkK_layer, lkK_step, lkK_result, lkK_work, lkT_sums, lkT_line, lkT_np, lkT_nc, lkS_sent, Fl_Asker.circuit, Fl_Asker.p, Fl_Asker.widths, Fl_Asker.dims, Fl_Asker.inputs, Fl_Asker.outputs, Fl_Asker.first, Fl_Asker.turn, Fl_Asker.layer, Fl_Asker.step, Fl_Asker.result, Fl_Asker.work, Fl_Asker.sums, Fl_Asker.line, Fl_Asker.np, Fl_Asker.nc, Fl_Asker.sent, Bool.true_eq_false, Bool.false_eq_true, if_true, if_false, exists_eq_left', Option.some.injEq, true_and, and_true])))
set_option hygiene false in
local macro_rules | `(tactic| walk_at "ag") => `(tactic| (walk_at "dx"; (try simp only [ob, g1, g2, ohD, orD, onP, onC, onL, sentD, moI_ins, lkK_circuit, lkK_p, lkK_widths, lkK_dims, lkK_inputs, lkK_outputs, lkK_first, lkK_turn, lkK_layer, lkK_step, lkK_result, lkK_work, lkT_sums, lkT_line, lkT_np, lkT_nc, lkS_sent, Fl_Asker.circuit, Fl_Asker.p, Fl_Asker.widths, Fl_Asker.dims, Fl_Asker.inputs, Fl_Asker.outputs, Fl_Asker.first, Fl_Asker.turn, Fl_Asker.layer, Fl_Asker.step, Fl_Asker.result, Fl_Asker.work, Fl_Asker.sums, Fl_Asker.line, Fl_Asker.np, Fl_Asker.nc, Fl_Asker.sent, Bool.true_eq_false, Bool.false_eq_true, if_true, if_false, exists_eq_left', Option.some.injEq, true_and, and_true])))

inductive AJ where
  | fst (ths : List Int) | lay (l : Nat) (g ths : List Int) (C : Int) | sent (l : Nat) (g ths : List Int) (C : Int) (vs : List Int) | line (l : Nat) (g ths : List Int) (C : Int) (vs : List Int) | res (r : RS)
def ASt (n0 : Nat) (m : MM) (k : Nat) (c : Cir) (most wide b : Nat) (inp out : List Int) (w : Int) : AJ → Prop
  | .fst ths => ∃ j, m.M[k]? = some (.ins "Asker" (akF c b inp out (.hnd j) none 0 0 none w)) ∧ m.M[j]? = some (.lst (ths.map D.int)) ∧ n0 ≤ j ∧ InP c.p ths ∧ ths.length < b + wN c 0
  | .lay l g ths C => ∃ kt ks j F, m.M[k]? = some (.ins "Asker" (akF c b inp out (.lst F) (some kt) l ths.length none w)) ∧ TuB m kt ks j c most wide l b g C ths none none none ∧ n0 ≤ kt ∧ n0 ≤ ks ∧ n0 ≤ j
  | .sent l g ths C vs => ∃ kt ks j F, m.M[k]? = some (.ins "Asker" (akF c b inp out (.lst F) (some kt) l ths.length none w)) ∧ TuB m kt ks j c most wide l b g C ths (some vs) none none ∧ n0 ≤ kt ∧ n0 ≤ ks ∧ n0 ≤ j ∧ ths.length < b + 2 * wN c (l + 1)
  | .line l g ths C vs => ∃ kt ks j F, m.M[k]? = some (.ins "Asker" (akF c b inp out (.lst F) (some kt) l ths.length none w)) ∧ TuB m kt ks j c most wide l b g C ths none (some vs) none ∧ n0 ≤ kt ∧ n0 ≤ ks ∧ n0 ≤ j ∧ ths.length = b + 2 * wN c (l + 1) ∧ InP c.p vs ∧ vs.length = wN c (l + 1) + 1
  | .res r => ∃ F kt l s, m.M[k]? = some (.ins "Asker" (akF c b inp out F kt l s (some r) w))
def Ext (n0 : Nat) (m m' : MM) : Prop := m'.s = m.s ∧ ∀ i < n0, m'.M[i]? = m.M[i]?
theorem Ext.refl {n0 : Nat} {m : MM} : Ext n0 m m := ⟨rfl, fun _ _ => rfl⟩
theorem Ext.trans {n0 : Nat} {a b c : MM} (h : Ext n0 a b) (g : Ext n0 b c) : Ext n0 a c := ⟨g.1.trans h.1, fun i hi => (g.2 i hi).trans (h.2 i hi)⟩
theorem Ext.set {n0 : Nat} {a b : MM} (h : Ext n0 a b) {k : Nat} {o : MO} (hk : n0 ≤ k) : Ext n0 a ⟨b.M.set k o, b.s⟩ := ⟨h.1, fun i hi => by
  show (b.M.set k o)[i]? = _
  rw [List.getElem?_set_ne (by omega)]; exact h.2 i hi⟩
def beginJ (c : Cir) (inp : List Int) (l : Nat) (g : List Int) (C : Int) : AJ := if l < c.ls.length then .lay l g [] C else .res (if valAt inp g c.p = C then .bel else .inpE l)
def startJ (c : Cir) (b : Nat) (inp out ths : List Int) : AJ := if ths.length = b + wN c 0 then beginJ c inp 0 ths (valAt out ths c.p) else .fst ths
section
variable {m m' : MM} {k ks j most wide l b : Nat} {c : Cir} {g ths : List Int} {C : Int} {sent line : Option (List Int)} {nx : Option (List Int × Int)}
theorem TuB.keep (T : TuB m k ks j c most wide l b g C ths sent line nx) (h1 : m'.M[k]? = m.M[k]?) (h2 : m'.M[ks]? = m.M[ks]?) (h3 : m'.M[j]? = m.M[j]?) : TuB m' k ks j c most wide l b g C ths sent line nx :=
  ⟨h1.trans T.ob, ⟨h2.trans T.a.ob, h3.trans T.a.th, T.a.pm, T.a.pr, T.a.lt, T.a.ld, T.a.se⟩, T.hc, T.w8, T.b8, T.hl, T.gin, T.gl, T.tin⟩
theorem TuB.ne1 (T : TuB m k ks j c most wide l b g C ths sent line nx) : ks ≠ k := ne_obj T.a.ob T.ob (ins_ne (by decide))
theorem TuB.ne3 (T : TuB m k ks j c most wide l b g C ths sent line nx) : j ≠ k := fun e => ne_obj T.ob T.a.th lst_ne e.symm
theorem TuB.put {line' : Option (List Int)} {nx' : Option (List Int × Int)} (T : TuB m k ks j c most wide l b g C ths sent line nx) : TuB ⟨m.M.set k (.ins "Turn" (tuF c l b g ks line' nx')), m.s⟩ k ks j c most wide l b g C ths sent line' nx' :=
  ⟨List.getElem?_set_self (getLt T.ob), ⟨by show (m.M.set k _)[ks]? = _; rw [List.getElem?_set_ne (Ne.symm T.ne1)]; exact T.a.ob, by show (m.M.set k _)[j]? = _; rw [List.getElem?_set_ne (Ne.symm T.ne3)]; exact T.a.th, T.a.pm, T.a.pr, T.a.lt, T.a.ld, T.a.se⟩, T.hc, T.w8, T.b8, T.hl, T.gin, T.gl, T.tin⟩
end
def thrJ (c : Cir) (b : Nat) (inp out : List Int) (z : Int) : AJ → AJ
  | .fst ths => startJ c b inp out (ths ++ [z])
  | .sent l g ths _ vs => .lay l g (ths ++ [z]) (valV vs z c.p)
  | .line l _ ths _ vs => beginJ c inp (l + 1) (nxtG c l b ths z) (valV vs z c.p)
  | st => st
def ansJ (c : Cir) (b : Nat) (vs : List Int) : AJ → AJ
  | .lay l g ths C => if ths.length = b + 2 * wN c (l + 1) then (if lineC c l b g C ths vs = true then .line l g ths C vs else .res (.lineE l)) else (if askC vs c.p C (degsT b (wN c (l + 1))) ths = true then .sent l g ths C vs else .res (.round l ths.length))
  | st => st
def resJ : AJ → D
  | .res r => rsD r
  | _ => .non
theorem ASt.obj {n0 k : Nat} {m : MM} {c : Cir} {most wide b : Nat} {inp out : List Int} {w : Int} {st : AJ} (A : ASt n0 m k c most wide b inp out w st) : ∃ f kt l s r w', m.M[k]? = some (.ins "Asker" (akF c b inp out f kt l s r w')) ∧ orD r = resJ st := by
  cases st with
  | fst ths => obtain ⟨j, ob, _⟩ := A; exact ⟨_, _, _, _, _, _, ob, rfl⟩
  | lay l g ths C => obtain ⟨kt, ks, j, F', ob, _⟩ := A; exact ⟨_, _, _, _, _, _, ob, rfl⟩
  | sent l g ths C vs => obtain ⟨kt, ks, j, F', ob, _⟩ := A; exact ⟨_, _, _, _, _, _, ob, rfl⟩
  | line l g ths C vs => obtain ⟨kt, ks, j, F', ob, _⟩ := A; exact ⟨_, _, _, _, _, _, ob, rfl⟩
  | res r => obtain ⟨F', kt, l, s, ob⟩ := A; exact ⟨_, _, _, _, _, _, ob, rfl⟩
def isLay : AJ → Bool
  | .lay .. => true
  | _ => false
def runJ (c : Cir) (b : Nat) (inp out : List Int) : List Int → List (List Int) → AJ → AJ
  | [], _, st => st
  | z :: zs, S, st => runJ c b inp out zs (if isLay st = true then S.drop 1 else S) (thrJ c b inp out z (ansJ c b (S.headD []) st))
/-! ### states of an answerer that answer alike -/
/-! ### the walk beside the honest answerer -/
inductive BP where
  | out | round (l k : Nat) | line (l : Nat)
def wkF (c : Cir) (b : Nat) (th : D) (A : List (List (List Int) × List Int)) (h : Nat) (g : List Int) : List (String × D) :=
  [("circuit", cD c), ("p", .int c.p), ("dims", .int (b : Nat)), ("throws", th), ("answers", .lst (A.map ansD)), ("honest", .hnd h), ("point", .lst (g.map D.int))]
section
variable {c : Cir} {b h : Nat} {th : D} {A : List (List (List Int) × List Int)} {g : List Int}
theorem lkW_circuit : List.lookup "circuit" (wkF c b th A h g) = some (cD c) := rfl
theorem lkW_p : List.lookup "p" (wkF c b th A h g) = some (.int c.p) := rfl
theorem lkW_dims : List.lookup "dims" (wkF c b th A h g) = some (.int (b : Nat)) := rfl
theorem lkW_throws : List.lookup "throws" (wkF c b th A h g) = some (th) := rfl
theorem lkW_answers : List.lookup "answers" (wkF c b th A h g) = some (.lst (A.map ansD)) := rfl
theorem lkW_honest : List.lookup "honest" (wkF c b th A h g) = some (.hnd h) := rfl
theorem lkW_point : List.lookup "point" (wkF c b th A h g) = some (.lst (g.map D.int)) := rfl
end
class Fl_Walk (fl : String → List String) : Prop where
  circuit : (fl "circuit").contains "Walk" = true
  p : (fl "p").contains "Walk" = true
  dims : (fl "dims").contains "Walk" = true
  throws : (fl "throws").contains "Walk" = true
  answers : (fl "answers").contains "Walk" = true
  honest : (fl "honest").contains "Walk" = true
  point : (fl "point").contains "Walk" = true


set_option hygiene false in
local macro_rules | `(tactic| walk_at "wk") => `(tactic| (walk_at "dx"; (try simp only [ob, obh, moI_ins, lkW_circuit, lkW_p, lkW_dims, lkW_throws, lkW_answers, lkW_honest, lkW_point, Fl_Walk.circuit, Fl_Walk.p, Fl_Walk.dims, Fl_Walk.throws, Fl_Walk.answers, Fl_Walk.honest, Fl_Walk.point, Bool.true_eq_false, Bool.false_eq_true, if_true, if_false, exists_eq_left', Option.some.injEq, true_and, and_true])))
set_option hygiene false in
local macro_rules | `(tactic| walk_at "wg") => `(tactic| (walk_at "dx"; (try simp only [ob, g1, g2, moI_ins, lkW_circuit, lkW_p, lkW_dims, lkW_throws, lkW_answers, lkW_honest, lkW_point, Fl_Walk.circuit, Fl_Walk.p, Fl_Walk.dims, Fl_Walk.throws, Fl_Walk.answers, Fl_Walk.honest, Fl_Walk.point, Bool.true_eq_false, Bool.false_eq_true, if_true, if_false, exists_eq_left', Option.some.injEq, true_and, and_true])))

/-! ### a conversation, layer by layer -/
def rndsR (c : Cir) (b l : Nat) : List (List Int) → List Int → List Int → Int → Sum RS Int
  | S :: Ss, z :: zs, ths, C => if askC S c.p C (degsT b (wN c (l + 1))) ths = true then rndsR c b l Ss zs (ths ++ [z]) (valV S z c.p) else .inl (.round l ths.length)
  | [], _, _, C => .inr C
  | _ :: _, [], _, C => .inr C
def convR (c : Cir) (b : Nat) (inp : List Int) : List (List (List Int) × List Int) → List Int → Nat → List Int → Int → RS
  | [], _, l, g, C => if valAt inp g c.p = C then .bel else .inpE l
  | (Ps, L) :: A, zs, l, g, C => match rndsR c b l Ps zs [] C with
    | .inl r => r
    | .inr C' => if lineC c l b g C' (zs.take Ps.length) L = true then convR c b inp A (zs.drop (Ps.length + 1)) (l + 1) (nxtG c l b (zs.take Ps.length) (gi zs (Ps.length : Nat))) (valV L (gi zs (Ps.length : Nat)) c.p) else .lineE l
section
variable {c : Cir} {b : Nat} {inp out : List Int}
theorem runJ_res : ∀ (zs : List Int) (S : List (List Int)) (r : RS), runJ c b inp out zs S (.res r) = .res r
  | [], _, _ => rfl
  | z :: zs, S, r => by
    show runJ c b inp out zs S (.res r) = _
    exact runJ_res zs _ r
theorem runJ_fst {S : List (List Int)} : ∀ (zs ths : List Int), zs ≠ [] → ths.length + zs.length = b + wN c 0 → ∀ r, runJ c b inp out (zs ++ r) S (.fst ths) = runJ c b inp out r S (beginJ c inp 0 (ths ++ zs) (valAt out (ths ++ zs) c.p))
  | [], _, h, _, _ => absurd rfl h
  | [z], ths, _, h, r => by
    show runJ c b inp out r S (startJ c b inp out (ths ++ [z])) = _
    unfold startJ
    rw [if_pos (by rw [List.length_append]; exact h)]
  | z :: y :: zs, ths, _, h, r => by
    show runJ c b inp out (y :: zs ++ r) S (startJ c b inp out (ths ++ [z])) = _
    unfold startJ
    have h : ths.length + (zs.length + 1 + 1) = b + wN c 0 := h
    rw [if_neg (by rw [List.length_append]; show ths.length + 1 ≠ _; omega)]
    rw [runJ_fst (y :: zs) (ths ++ [z]) (by simp) (by rw [List.length_append]; show ths.length + 1 + (zs.length + 1) = _; omega) r]
    simp
theorem runJ_start {zs : List Int} {S : List (List Int)} (h : b + wN c 0 ≤ zs.length) : runJ c b inp out zs S (startJ c b inp out []) = runJ c b inp out (zs.drop (b + wN c 0)) S (beginJ c inp 0 (zs.take (b + wN c 0)) (valAt out (zs.take (b + wN c 0)) c.p)) := by
  by_cases e : b + wN c 0 = 0
  · rw [e, List.drop_zero, List.take_zero]
    unfold startJ
    rw [if_pos (by rw [e]; rfl)]
  · have z := runJ_fst (c := c) (b := b) (inp := inp) (out := out) (S := S) (zs.take (b + wN c 0)) [] (fun z => by have z := congrArg List.length z; rw [List.length_take, List.length_nil] at z; omega) (by rw [List.length_take, List.length_nil]; omega) (zs.drop (b + wN c 0))
    rw [List.take_append_drop, List.nil_append] at z
    unfold startJ
    rw [if_neg (by rw [List.length_nil]; omega)]
    exact z
theorem runJ_rnds {l : Nat} {g : List Int} : ∀ (Ps : List (List Int)) (zs ths : List Int) (C : Int) (S : List (List Int)), Ps.length ≤ zs.length → ths.length + Ps.length ≤ b + 2 * wN c (l + 1) →
    runJ c b inp out zs (Ps ++ S) (.lay l g ths C) = match rndsR c b l Ps zs ths C with
      | .inl r => .res r
      | .inr C' => runJ c b inp out (zs.drop Ps.length) S (.lay l g (ths ++ zs.take Ps.length) C')
  | [], zs, ths, C, S, _, _ => by
    unfold rndsR
    rw [List.length_nil, List.drop_zero, List.take_zero, List.append_nil]
    rfl
  | P :: Ps, [], ths, C, S, h, _ => by simp at h
  | P :: Ps, z :: zs, ths, C, S, h1, h2 => by
    rw [List.length_cons] at h2
    rw [List.length_cons, List.length_cons] at h1
    show runJ c b inp out zs (Ps ++ S) (thrJ c b inp out z (ansJ c b P (.lay l g ths C))) = _
    unfold ansJ rndsR
    dsimp only
    rw [if_neg (by omega)]
    by_cases e : askC P c.p C (degsT b (wN c (l + 1))) ths = true
    · rw [if_pos e, if_pos e]
      show runJ c b inp out zs (Ps ++ S) (.lay l g (ths ++ [z]) (valV P z c.p)) = _
      rw [runJ_rnds Ps zs (ths ++ [z]) (valV P z c.p) S (by omega) (by rw [List.length_append]; show ths.length + 1 + _ ≤ _; omega)]
      rw [List.length_cons, List.drop_succ_cons, List.take_succ_cons, List.append_assoc]
      rfl
    · rw [if_neg e, if_neg e]
      exact runJ_res _ _ _
theorem runJ_line {l : Nat} {g ths zs : List Int} {C z : Int} {L : List Int} {S : List (List Int)} (h : ths.length = b + 2 * wN c (l + 1)) : runJ c b inp out (z :: zs) (L :: S) (.lay l g ths C) = if lineC c l b g C ths L = true then runJ c b inp out zs S (beginJ c inp (l + 1) (nxtG c l b ths z) (valV L z c.p)) else .res (.lineE l) := by
  show runJ c b inp out zs S (thrJ c b inp out z (ansJ c b L (.lay l g ths C))) = _
  unfold ansJ
  dsimp only
  rw [if_pos h]
  by_cases e : lineC c l b g C ths L = true
  · rw [if_pos e, if_pos e]
    rfl
  · rw [if_neg e, if_neg e]
    exact runJ_res _ _ _
theorem runJ_conv : ∀ (A : List (List (List Int) × List Int)) (zs : List Int) (l : Nat) (g : List Int) (C : Int), l + A.length = c.ls.length → (∀ i < A.length, (A.getD i ([], [])).1.length = b + 2 * wN c (l + i + 1)) → zs.length = needN c b l A.length →
    runJ c b inp out zs (flatA A) (beginJ c inp l g C) = .res (convR c b inp A zs l g C)
  | [], zs, l, g, C, hl, _, _ => by
    unfold beginJ convR
    rw [if_neg (by rw [List.length_nil] at hl; omega)]
    exact runJ_res _ _ _
  | (Ps, L) :: A, zs, l, g, C, hl, hA, hz => by
    rw [List.length_cons] at hl
    have h0 : Ps.length = b + 2 * wN c (l + 1) := hA 0 (by rw [List.length_cons]; omega)
    have hz : zs.length = (b + 2 * wN c (l + 1) + 1) + needN c b (l + 1) A.length := hz
    have ih := runJ_conv A (zs.drop (Ps.length + 1)) (l + 1) (nxtG c l b (zs.take Ps.length) (gi zs (Ps.length : Nat))) (valV L (gi zs (Ps.length : Nat)) c.p) (by omega) (fun i hi => by
      have z := hA (i + 1) (by rw [List.length_cons]; omega)
      rw [show l + 1 + i + 1 = l + (i + 1) + 1 by omega]
      exact z) (by rw [List.length_drop]; omega)
    unfold convR
    have eb : beginJ c inp l g C = .lay l g [] C := if_pos (by omega)
    have ef : flatA ((Ps, L) :: A) = Ps ++ (L :: flatA A) := by
      unfold flatA
      rw [List.flatMap_cons]
      simp
    rw [eb, ef, runJ_rnds Ps zs [] C (L :: flatA A) (by omega) (by rw [List.length_nil]; omega)]
    cases rndsR c b l Ps zs [] C with
    | inl r => rfl
    | inr C' =>
      dsimp only
      rw [List.nil_append, List.drop_eq_getElem_cons (by omega), runJ_line (by rw [List.length_take]; omega)]
      have eg : zs[Ps.length]'(by omega) = gi zs (Ps.length : Nat) := by rw [gi_nat, List.getD_eq_getElem?_getD, List.getElem?_eq_getElem (by omega)]; rfl
      rw [eg]
      by_cases e : lineC c l b g C' (zs.take Ps.length) L = true
      · rw [if_pos e, if_pos e]
        exact ih
      · rw [if_neg e, if_neg e]
end
/-! ### == of tuples; the results and the places of blame as values -/
/-! ### the blame of a conversation -/
def jdgF (c : Cir) (b : Nat) (R O : List (List Int)) (zs : List Int) (A : List (List (List Int) × List Int)) : RS := convR c b (inT R (colsN c c.ls.length)) A (zs.drop (b + wN c 0)) 0 (zs.take (b + wN c 0)) (valAt (inT O (colsN c 0)) (zs.take (b + wN c 0)) c.p)
/-- what a whole conversation is made of -/
structure CnvOK (c : Cir) (b : Nat) (zs : List Int) (A : List (List (List Int) × List Int)) : Prop where
  zl : zs.length = b + wN c 0 + needN c b 0 c.ls.length
  al : (A.map fun a => a.1.length) = (List.range c.ls.length).map (fun l => b + 2 * wN c (l + 1))
  zin : InP c.p zs
  sl : ∀ S ∈ flatA A, S.length ≤ 1000
theorem CnvOK.len {c : Cir} {b : Nat} {zs : List Int} {A : List (List (List Int) × List Int)} (h : CnvOK c b zs A) : A.length = c.ls.length := by
  have := congrArg List.length h.al
  rw [List.length_map, List.length_map, List.length_range] at this
  exact this
theorem CnvOK.at {c : Cir} {b : Nat} {zs : List Int} {A : List (List (List Int) × List Int)} (h : CnvOK c b zs A) {i : Nat} (hi : i < A.length) : (A.getD i ([], [])).1.length = b + 2 * wN c (i + 1) := by
  have z := congrArg (fun l => l[i]?) h.al
  have hl := h.len
  rw [List.getElem?_map, List.getElem?_map, List.getElem?_eq_getElem hi, List.getElem?_range (by omega)] at z
  rw [List.getD_eq_getElem?_getD, List.getElem?_eq_getElem hi]
  injection z
theorem CnvOK.run {c : Cir} {b : Nat} {zs : List Int} {A : List (List (List Int) × List Int)} (h : CnvOK c b zs A) (R O : List (List Int)) : resJ (runJ c b (inT R (colsN c c.ls.length)) (inT O (colsN c 0)) zs (flatA A) (startJ c b (inT R (colsN c c.ls.length)) (inT O (colsN c 0)) [])) = rsD (jdgF c b R O zs A) := by
  have hz := h.zl
  rw [runJ_start (by omega), runJ_conv A _ 0 _ _ (by rw [h.len]; omega) (fun i hi => by rw [Nat.zero_add]; exact h.at hi) (by rw [List.length_drop, h.len]; omega)]
  rfl
class Fl_blame (fl : String → List String) : Prop where
  wp : (fl "point").contains "Walk" = true
  wpp : (fl "p").contains "Walk" = true
/-! ### the asker beside the honest answerer: plain law -/
section
variable {c : Cir} {most wide b l : Nat} {B g r : List Int}
end
/-! a wrong claim that is believed has a blame -/
set_option hygiene false in
local macro_rules | `(tactic| walk_at "bl") => `(tactic| (walk_at "dx"; (try simp only [dgTupG, dgsCons, dgsNil, dgFld, asT, dVar, List.length_cons, List.length_nil, List.getElem?_cons_zero, ob, obL, obh, hk, moI_ins, Fl_B1.honest, Fl_B1.circuit, Fl_B1.bits, Fl_B1.p, Fl_B1.claimed, Fl_B1.choices, Fl_B1.used, Fl_B1.claim, Fl_B1.layer, Fl_B1.point, Fl_B1.throws, Fl_B1.sent, Fl_B1.abits, Fl_B1.ap,
  List.getElem?_set_self, List.set_set, List.length_set, look_put, String.reduceEq, reduceIte, exists_eq_left', Option.some.injEq, true_and, and_true])))

/-! ### four objects side by side in the store -/
section
variable {n0 : Nat} {pre post : List MO} {a b c d x : MO}
end
/-! ### rounds one by one -/
/-! ### what a bluffer or a guesser sends has the claim as its sum -/
class Mt_A (mt : String → List (String × DC)) : Prop where
  begin : (mt "begin").lookup "Answerer" = some C_Answerer_begin
  poly : (mt "poly").lookup "Answerer" = some C_Answerer_poly
  throw : (mt "throw").lookup "Answerer" = some C_Answerer_throw
  line : (mt "line").lookup "Answerer" = some C_Answerer_line
local macro_rules | `(tactic| walk_at "dx") => `(tactic| try simp only [eq_self_iff_true, okE_int, okE_bl, okE_non, eqD_int, eqD_bl, kq_NoneType_int, kq_NoneType_bool, kq_NoneType_list, kq_NoneType_tuple, kq_NoneType_str, kq_bool_int, kq_bool_bool, kq_bool_list, kq_bool_tuple, kq_bool_str, kq_int_int, kq_int_bool, kq_int_list, kq_int_tuple, kq_int_str, kq_str_int, kq_str_bool, kq_str_list, kq_str_tuple, kq_str_str, kq_list_int, kq_list_bool, kq_list_list, kq_list_tuple, kq_list_str, kq_tuple_int, kq_tuple_bool, kq_tuple_list, kq_tuple_tuple, kq_tuple_str, Mt_A.begin, Mt_A.poly, Mt_A.throw, Mt_A.line, oInL, oIsB, oNotB, oEqH, oNeH, oShr, oExt, cMaxL, cMinL, cAny, cAll, cTuple, cListM, dRevL, dFld, dSetF, dAugF, dMeth, dMake, moI_ins, app_len, set_app, List.contains_cons, List.contains_nil, Bool.true_or,  Bool.true_eq_false, decide_true, not_true_eq_false, not_false_eq_true, Bool.not_true, Bool.not_false, decide_eq_true_eq, Bool.not_eq_true', decide_eq_false_iff_not, dSeq, dSet, dRaise_one, dRaise_two, dTryAs, dXf, dIsE, List.lookup_cons, List.lookup_nil, beq_self_eq_true, Bool.false_eq_true, if_false, dOp, dUn, dVar, dC, dCB, dCons, dNil, dRet, dRetN, dIf, dB, dAnd, dOr, dNot, dDrop, dNext, dMethL, dSetIx, dAndV, dOrV, dNotV, dBlV, dIfE, dLst, dTup, dLstM, dCall, dChain, dAsg, dgName, dgTup, bindD, asT, dFor, diList, diRng1, diRng2, diEnumerate, diZip, diReversed, dLc, dLcM, dYes, wipeD, dAug, dSl, dSlT, dpN, dpS,
  oI, oI0, oB0, oAdd, oNeg, oEq, oNe, oIx, oIsN, oNotN, isNon, oShl, oApp, oPop, oPopAt, cLen, cInt, cAbs, cSum, cMax2, cMin2, cList, cIsi, tyD, asL, asF, asK, moL_lst, ModC, DivC,
  List.getElem?_cons_zero, List.getElem?_cons_succ, List.set_cons_zero, List.set_cons_succ, List.getElem?_nil, List.length_cons, List.length_nil, List.length_map, Option.map_some, Option.bind_some, Option.isSome_some, if_true, true_and, and_true, MM.push])

set_option hygiene false in
local macro_rules | `(tactic| walk_at "an") => `(tactic| (walk_at "dx"; (try simp only [dgTupG, dgsCons, dgsNil, dgFld, asT, dVar, List.length_cons, List.length_nil, List.getElem?_cons_zero, ob, obL, hk, moI_ins, Mt_A.begin, Mt_A.poly, Mt_A.throw, Mt_A.line, Fl_Answerer.circuit, Fl_Answerer.tables, Fl_Answerer.bits, Fl_Answerer.p, Fl_Answerer.steps, Fl_Answerer.layer, Fl_Answerer.round, Fl_Answerer.wide, Fl_Answerer.gates, Fl_Answerer.near, Fl_Answerer.columns, Fl_Answerer.first, Fl_Answerer.second, Fl_Answerer.share, Fl_Answerer.below, Fl_Answerer.factors, Fl_Answerer.rest, Fl_Answerer.left,
  List.getElem?_set_self, List.set_set, List.length_set, look_put, String.reduceEq, reduceIte, exists_eq_left', Option.some.injEq, true_and, and_true])))

local macro_rules | `(tactic| walk_at "dx") => `(tactic| try simp only [eq_self_iff_true, okE_int, okE_bl, okE_non, eqD_int, eqD_bl, kq_NoneType_int, kq_NoneType_bool, kq_NoneType_list, kq_NoneType_tuple, kq_NoneType_str, kq_bool_int, kq_bool_bool, kq_bool_list, kq_bool_tuple, kq_bool_str, kq_int_int, kq_int_bool, kq_int_list, kq_int_tuple, kq_int_str, kq_str_int, kq_str_bool, kq_str_list, kq_str_tuple, kq_str_str, kq_list_int, kq_list_bool, kq_list_list, kq_list_tuple, kq_list_str, kq_tuple_int, kq_tuple_bool, kq_tuple_list, kq_tuple_tuple, kq_tuple_str, oInL, oIsB, oNotB, oEqH, oNeH, oShr, oExt, cMaxL, cMinL, cAny, cAll, cTuple, cListM, dRevL, dFld, dSetF, dAugF, dMeth, dMake, moI_ins, app_len, set_app, List.contains_cons, List.contains_nil, Bool.true_or,  Bool.true_eq_false, decide_true, not_true_eq_false, not_false_eq_true, Bool.not_true, Bool.not_false, decide_eq_true_eq, Bool.not_eq_true', decide_eq_false_iff_not, dSeq, dSet, dRaise_one, dRaise_two, dTryAs, dXf, dIsE, List.lookup_cons, List.lookup_nil, beq_self_eq_true, Bool.false_eq_true, if_false, dOp, dUn, dVar, dC, dCB, dCons, dNil, dRet, dRetN, dIf, dB, dAnd, dOr, dNot, dDrop, dNext, dMethL, dSetIx, dAndV, dOrV, dNotV, dBlV, dIfE, dLst, dTup, dLstM, dCall, dChain, dAsg, dgName, dgTup, bindD, asT, dFor, diList, diRng1, diRng2, diEnumerate, diZip, diReversed, dLc, dLcM, dYes, wipeD, dAug, dSl, dSlT, dpN, dpS,
  oI, oI0, oB0, oAdd, oNeg, oEq, oNe, oIx, oIsN, oNotN, isNon, oShl, oApp, oPop, oPopAt, cLen, cInt, cAbs, cSum, cMax2, cMin2, cList, cIsi, tyD, asL, asF, asK, moL_lst, ModC, DivC,
  List.getElem?_cons_zero, List.getElem?_cons_succ, List.set_cons_zero, List.set_cons_succ, List.getElem?_nil, List.length_cons, List.length_nil, List.length_map, Option.map_some, Option.bind_some, Option.isSome_some, if_true, true_and, and_true, MM.push])


/-! ### l.index(x) of flat things -/
/-! ### what the laws k23, k26 to k29 draw -/
/-! ### honest answers are believed -/
section
variable {c : Cir} {most wide b l : Nat} {B g : List Int}
end
/-! ### the asker's work, the lengths of what is accepted, the place in a conversation -/
section
variable {c : Cir} {b : Nat} {inp out : List Int}
end
/-! ### a comprehension whose items are new changing objects; a list of changing lists that no longer change -/
section
variable {X : Cx} {E : WX}
end
/-! ### a wrong claim with honest answers is refused at the first answer -/
/-! ### copies of lists -/
/-! ### bags of rows -/
theorem eqD_lstC {x y : D} {xs ys : List D} : eqD (.lst (x :: xs)) (.lst (y :: ys)) = (eqD x y && eqD (.lst xs) (.lst ys)) := rfl
theorem eqD_rows : ∀ {X Y : List (List Int)}, eqD (.lst (X.map fun r => D.lst (r.map D.int))) (.lst (Y.map fun r => D.lst (r.map D.int))) = decide (X = Y)
  | [], [] => rfl
  | [], _ :: _ => rfl
  | _ :: _, [] => rfl
  | x :: X, y :: Y => by
    rw [List.map_cons, List.map_cons, eqD_lstC, eqD_ints, eqD_rows (X := X) (Y := Y), Bool.eq_iff_iff, Bool.and_eq_true, decide_eq_true_iff, decide_eq_true_iff, decide_eq_true_iff]
    exact ⟨fun ⟨a, b⟩ => by rw [a, b], fun h => by cases h; exact ⟨rfl, rfl⟩⟩
def rwL (r : List Int) : D := .lst (r.map D.int)
def rwsD (R : List (List Int)) : D := .lst (R.map fun r => D.lst (r.map D.int))
theorem okE_rws {n : Nat} {R : List (List Int)} : okE (n + 2) (rwsD R) = true := okE_lst fun d hd => by
  obtain ⟨r, _, rfl⟩ := List.mem_map.mp hd
  exact okE_ints
def markV (s p : Int) : List Int → Int
  | [] => 0
  | x :: r => (markV s p r * s + x) % p
def bagV (s t p : Int) (R : List (List Int)) : Int := R.foldl (fun a r => a * (t - markV s p r) % p) (1 % p)
def RwP (p : Int) (R : List (List Int)) : Prop := R.length ≤ 40 ∧ ∀ r ∈ R, InP p r ∧ r.length ≤ 10
theorem markV_in {s p : Int} (hp : 2 ≤ p) : ∀ r : List Int, 0 ≤ markV s p r ∧ markV s p r < p
  | [] => ⟨Int.le_refl 0, by show (0 : Int) < p; omega⟩
  | _ :: _ => mod_in hp
theorem bagF_in {s t p a : Int} (hp : 2 ≤ p) (ha : 0 ≤ a ∧ a < p) : ∀ R : List (List Int), 0 ≤ R.foldl (fun a r => a * (t - markV s p r) % p) a ∧ R.foldl (fun a r => a * (t - markV s p r) % p) a < p
  | [] => ha
  | _ :: R => bagF_in hp (mod_in hp) R
theorem bagV_in {s t p : Int} (hp : 2 ≤ p) (R : List (List Int)) : 0 ≤ bagV s t p R ∧ bagV s t p R < p := bagF_in hp (mod_in hp) R
def C_mark : DC := fun ds m Φ _ => ∃ (r : List Int) (s p : Int), ds = [.lst (r.map D.int), .int s, .int p] ∧ PM p ∧ InP p r ∧ r.length ≤ 10 ∧ 0 ≤ s ∧ s < p ∧ Φ (.int (markV s p r)) m
def C_product__7 : DC := fun ds m Φ _ => ∃ (R : List (List Int)) (s t p : Int), ds = [rwsD R, .int s, .int t, .int p] ∧ PM p ∧ RwP p R ∧ 0 ≤ s ∧ s < p ∧ 0 ≤ t ∧ t < p ∧ Φ (.int (bagV s t p R)) m
def sameB (R O : List (List Int)) (s t p : Int) : Bool := decide (R.length = O.length) && decide (bagV s t p R = bagV s t p O)
def C_same_bag : DC := fun ds m Φ _ => ∃ (R O : List (List Int)) (s t p : Int), ds = [rwsD R, rwsD O, .int s, .int t, .int p] ∧ PM p ∧ RwP p R ∧ RwP p O ∧ 0 ≤ s ∧ s < p ∧ 0 ≤ t ∧ t < p ∧ Φ (.bl (sameB R O s t p)) m
def W_mark : DS := dSeq (dSet 3 (dC (.int 0))) (dSeq (dFor (diList (dRevL (dVar 0))) (dgName 4) (dSet 3 (dOp oMod (dOp oAdd (dOp oMul (dVar 3) (dVar 1)) (dVar 4)) (dVar 2)))) (dRet (dVar 3)))
def W_product__7 : DS := dSeq (dSet 4 (dOp oMod (dC (.int 1)) (dVar 3))) (dSeq (dFor (diList (dVar 0)) (dgName 5) (dSet 4 (dOp oMod (dOp oMul (dVar 4) (dOp oSub (dVar 2) (dCall 3 C_mark (dCons (dVar 5) (dCons (dVar 1) (dCons (dVar 3) (dNil))))))) (dVar 3)))) (dRet (dVar 4)))
def W_same_bag : DS := dRet (dAndV (dOp oEq (dCB cLen (dCons (dVar 0) (dNil))) (dCB cLen (dCons (dVar 1) (dNil)))) (dOp oEq (dCall 4 C_product__7 (dCons (dVar 0) (dCons (dVar 2) (dCons (dVar 3) (dCons (dVar 4) (dNil)))))) (dCall 4 C_product__7 (dCons (dVar 1) (dCons (dVar 2) (dCons (dVar 3) (dCons (dVar 4) (dNil))))))))
theorem markV_fold {s p : Int} : ∀ r : List Int, r.reverse.foldl (fun t x => (t * s + x) % p) 0 = markV s p r
  | [] => rfl
  | x :: r => by
    rw [List.reverse_cons, List.foldl_append, markV_fold r]
    rfl
theorem rd_mark : ∀ ds m Φ Ψ, ds.length = 3 → C_mark ds m Φ Ψ → W_mark { nx := fun _ m' => Φ .non m', rt := Φ } (fun _ => Ψ) (ds.map some ++ List.replicate (5 - ds.length) none) m := by
  intro ds m Φ Ψ _ h
  obtain ⟨r, s, p, rfl, hp, hr, hl, s0, s1, q⟩ := h
  have hp1 := hp.1
  have hp2 := hp.2
  change W_mark _ _ [some (.lst (r.map D.int)), some (.int s), some (.int p), none, none] m
  unfold W_mark
  walk_at "stp"
  walk_at "nxt"
  rw [← List.map_reverse]
  refine forW_map (inj := D.int) (fun q' ρ m' => ∃ (a : Int) (v4 : Option D), (0 ≤ a ∧ a < p) ∧ (∀ x ∈ q', 0 ≤ x ∧ x < p) ∧ q'.foldl (fun t x => (t * s + x) % p) a = markV s p r ∧ ρ = [some (.lst (r.map D.int)), some (.int s), some (.int p), some (.int a), v4] ∧ m' = m) ?_ ?_ r.reverse _ _ ⟨0, none, ⟨by decide, by omega⟩, fun x hx => hr x (List.mem_reverse.mp hx), markV_fold r, rfl, rfl⟩
  · rintro x q' kk hkk ρ m' ⟨a, v4, a0, hx, e, rfl, rfl⟩
    walk_at "dx"
    refine ⟨mulL a0.1 (by omega), by omega, hkk _ _ ⟨_, _, mod_in hp1, fun y hy => hx y (List.mem_cons_of_mem _ hy), e, rfl, rfl⟩⟩
  · rintro ρ m' ⟨a, v4, a0, hx, e, rfl, rfl⟩
    walk_at "lst"
    have e : a = markV s p r := e
    rw [e]
    exact q
theorem rd_product__7 : ∀ ds m Φ Ψ, ds.length = 4 → C_product__7 ds m Φ Ψ → W_product__7 { nx := fun _ m' => Φ .non m', rt := Φ } (fun _ => Ψ) (ds.map some ++ List.replicate (6 - ds.length) none) m := by
  intro ds m Φ Ψ _ h
  obtain ⟨R, s, t, p, rfl, hp, hR, s0, s1, t0, t1, q⟩ := h
  have hp1 := hp.1
  have hp2 := hp.2
  change W_product__7 _ _ [some (rwsD R), some (.int s), some (.int t), some (.int p), none, none] m
  unfold W_product__7 rwsD
  walk_at "stp"
  refine ⟨by omega, ?_⟩
  walk_at "nxt"
  refine forW_map (inj := rwL) (fun q' ρ m' => ∃ (a : Int) (v5 : Option D), (0 ≤ a ∧ a < p) ∧ (∀ r ∈ q', InP p r ∧ r.length ≤ 10) ∧ q'.foldl (fun a r => a * (t - markV s p r) % p) a = bagV s t p R ∧ ρ = [some (rwsD R), some (.int s), some (.int t), some (.int p), some (.int a), v5] ∧ m' = m) ?_ ?_ R _ _ ⟨1 % p, none, mod_in hp1, hR.2, rfl, rfl, rfl⟩
  · rintro x q' kk hkk ρ m' ⟨a, v5, a0, hx, e, rfl, rfl⟩
    have x0 := hx x List.mem_cons_self
    unfold rwL
    walk_at "dx"
    refine ⟨x, s, p, rfl, hp, x0.1, x0.2, s0, s1, ?_⟩
    walk_at "dx"
    refine ⟨mulL a0.1 (by omega), by omega, hkk _ _ ⟨_, _, mod_in hp1, fun y hy => hx y (List.mem_cons_of_mem _ hy), e, rfl, rfl⟩⟩
  · rintro ρ m' ⟨a, v5, a0, hx, e, rfl, rfl⟩
    walk_at "lst"
    have e : a = bagV s t p R := e
    rw [e]
    exact q
theorem rd_same_bag : ∀ ds m Φ Ψ, ds.length = 5 → C_same_bag ds m Φ Ψ → W_same_bag { nx := fun _ m' => Φ .non m', rt := Φ } (fun _ => Ψ) (ds.map some ++ List.replicate (5 - ds.length) none) m := by
  intro ds m Φ Ψ _ h
  obtain ⟨R, O, s, t, p, rfl, hp, hR, hO, s0, s1, t0, t1, q⟩ := h
  change W_same_bag _ _ [some (rwsD R), some (rwsD O), some (.int s), some (.int t), some (.int p)] m
  unfold W_same_bag sameB at *
  have eR : rwsD R = .lst (R.map fun r => D.lst (r.map D.int)) := rfl
  have eO : rwsD O = .lst (O.map fun r => D.lst (r.map D.int)) := rfl
  rw [eR, eO]
  walk_at "dx"
  by_cases e : R.length = O.length
  · rw [if_pos (by omega)]
    refine ⟨R, s, t, p, rfl, hp, hR, s0, s1, t0, t1, O, s, t, p, rfl, hp, hO, s0, s1, t0, t1, okE_int, okE_int, ?_⟩
    rw [eqD_int]
    rw [decide_eq_true e, Bool.true_and] at q
    exact q
  · rw [if_neg (by omega)]
    rw [decide_eq_false e, Bool.false_and] at q
    exact q
/-! ### a changing list of new changing lists; both at once no longer change; sorted numbers -/
def lcWH (n0 : Nat) (g : DG) (tt : DT) (te : DE) (ρ : Env) (Φ : D → MM → Prop) : List D → MM → Prop
  | [], m => Φ (.hnd n0) m
  | d :: ds, m => g d ρ m fun ρ1 m1 => m1 = m ∧ tt ρ1 m (fun b m2 => m2 = m ∧ if b = true then
      te ρ1 m (fun y m3 => ∃ acc, m3.M[n0]? = some (.lst acc) ∧ acc.length < LIM ∧ lcWH n0 g tt te ρ Φ ds ⟨m3.M.set n0 (.lst (acc ++ [y])), m3.s⟩) XF
    else lcWH n0 g tt te ρ Φ ds m) XF
def dLcH (it : DI) (g : DG) (tt : DT) (te : DE) (vs : List Nat) : DE := fun ρ m Φ Ψ => it ρ m (fun ds m1 => lcWH m1.M.length g tt te (wipeD ρ vs) Φ ds (m1.push (.lst []))) Ψ
theorem lcH_ok {K : PySem.W.Frag} {E : WX} {wi : DI} {g : DG} {tt : DT} {te : DE} {vs : List Nat} {σ : L2.St} {H : Hp} {Q : VK} (h : lift K E (dLcH wi g tt te vs) σ H Q) : tLc (liftI K E wi) (liftG K vs g) (liftT K EF tt) (lift K EF te) vs σ H Q := by
  obtain ⟨w, ρ, m, Ψ, Φ, a, vl, h⟩ := h
  refine ⟨w, ρ, m, Ψ, _, a, fun ds m1 w1 H1 J l1 h1 wk q1 => ?_, h⟩
  intro D hD
  refine ⟨fun i k H => k = ds.length - i ∧ i ≤ ds.length ∧ ∃ (m9 : MM) (w' : Wd), w1.le w' ∧ HRep K w' m9 H ∧ w'.th[m1.M.length]? = some D ∧ (∃ acc, m9.M[m1.M.length]? = some (.lst acc)) ∧ lcWH m1.M.length g tt te (wipeD ρ vs) Φ (ds.drop i) m9, ⟨ds.length, by omega, Nat.zero_le _, m1.push (.lst []), w1.add D, Wd.le_add, h1.add hD ⟨[], upd_same, rfl⟩, ?_, ⟨[], ?_⟩, q1⟩, ?_⟩
  · show (w1.th ++ [D])[m1.M.length]? = some D
    rw [← h1.len, List.getElem?_append_right (Nat.le_refl _)]; simp
  · show (m1.M ++ [MO.lst []])[m1.M.length]? = _
    rw [List.getElem?_append_right (Nat.le_refl _)]; simp
  rintro i k H2 ⟨rfl, hi, m9, w2, l2, h2, hD2, ⟨acc, hM⟩, q2⟩
  by_cases hlt : i < ds.length
  · have ed : ds[i]? = some ds[i] := List.getElem?_eq_getElem hlt
    have dr : ds.drop i = ds[i] :: ds.drop (i + 1) := List.drop_eq_getElem_cons hlt
    rw [dr] at q2
    refine .inr ⟨wk.go w2 _ H2 i _ l2 h2 ed, fun H' => ∃ (m9 : MM) (w' : Wd), w1.le w' ∧ HRep K w' m9 H' ∧ w'.th[m1.M.length]? = some D ∧ (∃ acc, m9.M[m1.M.length]? = some (.lst acc)) ∧ lcWH m1.M.length g tt te (wipeD ρ vs) Φ (ds.drop (i + 1)) m9, fun H' z => ⟨ds.length - (i + 1), by omega, rfl, hlt, z⟩, fun x H3 y => ?_⟩
    obtain ⟨w3, l3, h3, r3⟩ := wk.yld w2 _ H2 i _ x H3 l2 h2 ed y
    have s3 : Slots K w3 (L2.wipe σ vs) (wipeD ρ vs) := ((a.s.mono l1).mono (l2.trans l3)).wipes vs
    refine ⟨w3, wipeD ρ vs, _, ds[i], _, h3, s3, r3, fun ρ' m' w' H' σ' l h' s' e q => ⟨e.trans wipe_wipe, ?_⟩, q2⟩
    obtain ⟨rfl, q⟩ := q
    refine ⟨w', ρ', _, XF, _, ⟨h', s', xlift_F⟩, fun b m4 w4 H4 l4 h4 q4 => ?_, q⟩
    obtain ⟨rfl, q4⟩ := q4
    have l24 : w2.le w4 := l3.trans (l.trans l4)
    cases b with
    | true =>
      rw [if_pos rfl] at q4
      show (if true = true then _ else _)
      rw [if_pos rfl]
      refine ⟨w4, ρ', _, XF, _, ⟨h4, s'.mono l4, xlift_F⟩, fun y m5 w5 H5 v l5 h5 r5 q5 => ?_, q4⟩
      obtain ⟨acc, hM5, hz, q5⟩ := q5
      have hD5 : w5.th[m1.M.length]? = some D := l5.th _ _ (l24.th _ _ hD2)
      obtain ⟨xs, hx, r⟩ := h5.obj _ D _ hD5 hM5
      have z := h5.wr (ho := .lst (xs ++ [v])) (o' := .lst (acc ++ [y])) hD5 hM5 (fun z => by cases z) ⟨_, upd_same, r.append ⟨v, [], rfl, r5, rfl⟩⟩
      exact ⟨xs, hx, lim_lt (by rw [r.length]; exact hz), _, w5, l2.trans (l24.trans l5), z, hD5, ⟨_, List.getElem?_set_self (List.getElem?_eq_some_iff.mp hM5).1⟩, q5⟩
    | false =>
      rw [if_neg Bool.false_ne_true] at q4
      show (if false = true then _ else _)
      rw [if_neg Bool.false_ne_true]
      exact ⟨_, w4, l2.trans l24, h4, l24.th _ _ hD2, ⟨acc, hM⟩, q4⟩
  · have e : i = ds.length := by omega
    subst e
    rw [List.drop_length] at q2
    refine .inl ⟨wk.stop w2 _ H2 l2 h2, ?_⟩
    exact vl (.hnd m1.M.length) _ w2 H2 _ (l1.trans l2) h2 ⟨D, rfl, hD2⟩ q2
section
variable {X : Cx} {E : WX}
theorem js_setLcH (i : Nat) {y : Str} {py : Pos} {elt tg iter : Expr} {ifs : List Expr} {scope : Scope} {own : List (Str × Nat)} {pos spos : Pos} {wi : DI} {g : DG} {tt : DT} {te : DE} (hc : X.calm = true) (hN : X.N.Nodup) (hy : X.N[i]? = some y) (hyl : X.env.scope.names.lookup y = some .local)
    (hsw : swapsWith (.ListComp elt [⟨tg, iter, ifs, 0⟩] scope pos) (some (.Name y py)) spos.line X.env = pure true) (hi : JI X E tg iter wi) (ok : BlkOk X.N X.env.scope scope own)
    (hg : ∀ (s : Shared) (H : Hp) (C : Addr) (cl : List (Str × Addr)) (fp : List Addr), PG (X.blk s H scope (compEnvC scope cl C X.env) fp) tg (liftG X.K (own.map (·.2)) g))
    (ht : ∀ (s : Shared) (H : Hp) (C : Addr) (cl : List (Str × Addr)) (fp : List Addr), PTs (X.blk s H scope (compEnvC scope cl C X.env) fp) ifs (liftT X.K EF tt))
    (he : ∀ (s : Shared) (H : Hp) (C : Addr) (cl : List (Str × Addr)) (fp : List Addr), JE (X.blk s H scope (compEnvC scope cl C X.env) fp) EF elt te) (hs : ∀ x, foldedSetIterable iter X.env x = pure x := by intro _; rfl) :
    JS X E (.Assign [.Name y py] (.ListComp elt [⟨tg, iter, ifs, 0⟩] scope pos) spos) (dSet i (dLcH wi g tt te (own.map (·.2)))) := PS.imp (ps_setLc hc hN hy hyl hsw hi ok hg ht he hs) fun D σ H ⟨w, ρ, m, Ψ, N, a, n, h⟩ => by
  refine lcH_ok (E := E) ⟨w, ρ, m, Ψ ρ, _, a.at, fun d m1 w1 H1 v l1 h1 r1 q1 => ?_, h⟩
  exact n.nx _ m1 w1 H1 _ l1 h1 ((a.s.mono l1).set i r1) q1
end
/-- those of them that change are frozen -/
def frzAny : List D → MM → Option (List D × MM)
  | [], m => some ([], m)
  | .hnd k :: ds, m => match moL m.M[k]? with
    | some xs => match frzAny ds ⟨m.M.set k .dead, m.s⟩ with
      | some (r, m') => some (.lst xs :: r, m')
      | none => none
    | none => none
  | d :: ds, m => match frzAny ds m with
    | some (r, m') => some (d :: r, m')
    | none => none
theorem frzAny_ok {K : PySem.W.Frag} : ∀ (ds : List D) (w : Wd) (m : MM) (H : Hp) (vs : List V) (r : List D) (m' : MM), HRep K w m H → RepAll K w ds vs → frzAny ds m = some (r, m') → ∃ w', w.le w' ∧ HRep K w' m' H ∧ RepAll K w' r vs
  | [], w, m, H, vs, r, m', h, ra, e => by
    cases e
    exact ⟨w, .refl w, h, ra⟩
  | d :: ds, w, m, H, vs, r, m', h, ra, e => by
    have plain : (match frzAny ds m with
        | some (r, m') => some (d :: r, m')
        | none => none) = some (r, m') → ∃ w', w.le w' ∧ HRep K w' m' H ∧ RepAll K w' r vs := fun e => by
      cases er : frzAny ds m with
      | none => rw [er] at e; cases e
      | some y =>
        obtain ⟨r2, m2⟩ := y
        rw [er] at e
        cases e
        obtain ⟨v, vr, rfl, rv, rb⟩ := ra
        obtain ⟨w', l', h', r'⟩ := frzAny_ok ds w m H vr _ _ h rb er
        exact ⟨w', l', h', ⟨_, _, rfl, Rep.mono l' _ _ rv, r'⟩⟩
    cases d with
    | hnd k =>
      unfold frzAny at e
      cases em : moL m.M[k]? with
      | none => rw [em] at e; cases e
      | some xs =>
        rw [em] at e
        dsimp only at e
        cases er : frzAny ds ⟨m.M.set k .dead, m.s⟩ with
        | none => rw [er] at e; cases e
        | some y =>
          obtain ⟨r2, m2⟩ := y
          rw [er] at e
          cases e
          obtain ⟨v, vr, rfl, ⟨A, rfl, eA⟩, rb⟩ := ra
          obtain ⟨ys, fa, hx, rr, hf⟩ := h.frz eA (moL_some em)
          have l : w.le (w.put A (.lst ys)) := Wd.le_put fa
          obtain ⟨w', l', h', r'⟩ := frzAny_ok ds _ _ H vr _ _ hf (RepAll.mono l _ _ rb) er
          exact ⟨w', l.trans l', h', ⟨_, _, rfl, Rep.mono l' _ _ ⟨A, ys, rfl, upd_same, RepAll.mono l _ _ rr⟩, r'⟩⟩
    | _ => exact plain e
def dFrzY (i : Nat) (a : DS) : DS := fun N Ψ ρ m => ∃ ds r m', ρ[i]? = some (some (.lst ds)) ∧ frzAny ds m = some (r, m') ∧ a N Ψ (ρ.set i (some (.lst r))) m'
theorem js_frzY {X : Cx} {E : WX} {st : Stmt} {W : DS} (i : Nat) (h : JS X E st W) : JS X E st (dFrzY i W) := PS.imp h fun D σ H ⟨w, ρ, m, Ψ, N, a, n, q⟩ => by
  obtain ⟨ds, r, m', e, er, q⟩ := q
  obtain ⟨v, e1, A, xs, rfl, eA, ra⟩ := a.s.2 i _ e
  obtain ⟨w', l, h', r'⟩ := frzAny_ok ds w m H xs r m' a.h ra er
  have sl : Slots X.K w' (σ.set i (some (.ref A))) (ρ.set i (some (.lst r))) := (a.s.mono l).set i ⟨A, xs, rfl, l.F _ _ eA, r'⟩
  have es : σ.set i (some (.ref A)) = σ := by
    apply List.ext_getElem?
    intro j
    by_cases hj : i = j
    · subst hj
      rw [List.getElem?_set_self (List.getElem?_eq_some_iff.mp e1).1, e1]
    · rw [List.getElem?_set_ne hj]
  rw [es] at sl
  exact ⟨_, _, _, Ψ, N, ⟨h', sl, a.x.mono l⟩, n.mono l, q⟩
def cSortI : DCB := fun ds m Φ => match ds with
  | [.lst xs] => ∃ ns : List Int, xs = ns.map D.int ∧ ∀ ns' : List Int, ns'.Perm ns → ns'.Pairwise (· ≤ ·) → Φ (.lst (ns'.map D.int)) m
  | _ => False
theorem cbl_sortI {K : PySem.W.Frag} : CbL K (rSortedI K) cSortI := fun w m H ds vs Q Φ h r vl q => by
  unfold cSortI at q
  split at q
  · obtain ⟨ns, rfl, q⟩ := q
    obtain ⟨v, rfl, rv⟩ := rep1 r
    obtain ⟨a, xs, rfl, ha, ra⟩ := asK_ok h (show asK m (.lst _) = some _ from rfl) rv
    exact ⟨a, ns, rfl, .inl (.inl (by rw [← repAll_intsF ra]; exact ha)), fun ns' p hp hs hn => vl _ m _ _ _ (Wd.le_put (h.nof hn)) (h.put hn) (rep_put_lst h hn (repAll_ints ns')) (q ns' hp hs)⟩
  · exact q.elim

/-! ### the one sorted list -/
theorem sorted_unique {α : Type} {le : α → α → Bool} (anti : ∀ a b, le a b = true → le b a = true → a = b) : ∀ (xs ys : List α), xs.Perm ys → xs.Pairwise (fun a b => le a b = true) → ys.Pairwise (fun a b => le a b = true) → xs = ys
  | [], ys, h, _, _ => (List.nil_perm.mp h).symm
  | x :: xs, [], h, _, _ => absurd (List.perm_nil.mp h) (by simp)
  | x :: xs, y :: ys, h, h1, h2 => by
    rw [List.pairwise_cons] at h1 h2
    have e : x = y := by
      by_cases e : x = y
      · exact e
      · have xm : x ∈ y :: ys := h.mem_iff.mp List.mem_cons_self
        have ym : y ∈ x :: xs := h.mem_iff.mpr List.mem_cons_self
        have a : le y x = true := by
          rcases List.mem_cons.mp xm with z | z
          · exact absurd z e
          · exact h2.1 x z
        have b : le x y = true := by
          rcases List.mem_cons.mp ym with z | z
          · exact absurd z.symm e
          · exact h1.1 y z
        exact anti _ _ b a
    subst e
    rw [sorted_unique anti xs ys (List.Perm.cons_inv h) h1.2 h2.2]
theorem leR_le {a b : List Int} : leR a b = decide (a ≤ b) := congrFun (congrFun (PySem.W.dataLe_rows (fun b : List Int => b)) a) b
theorem sortR_sorted (R : List (List Int)) : (sortR R).Pairwise fun a b => leR a b = true :=
  List.pairwise_mergeSort (fun a b c h1 h2 => by
    rw [leR_le, decide_eq_true_iff] at *
    exact List.le_trans h1 h2) (fun a b => by
    rw [leR_le, leR_le, Bool.or_eq_true, decide_eq_true_iff, decide_eq_true_iff]
    exact List.le_total a b) R
theorem sortR_iff {R O : List (List Int)} : sortR R = sortR O ↔ R.Perm O := by
  constructor
  · intro h
    have a := List.mergeSort_perm R leR
    have b := List.mergeSort_perm O leR
    have h : R.mergeSort leR = O.mergeSort leR := h
    rw [h] at a
    exact a.symm.trans b
  · intro h
    refine sorted_unique (fun a b h1 h2 => ?_) _ _ (((List.mergeSort_perm R leR).trans h).trans (List.mergeSort_perm O leR).symm) (sortR_sorted R) (sortR_sorted O)
    rw [leR_le, decide_eq_true_iff] at h1 h2
    exact List.le_antisymm h1 h2
def srtI (ns : List Int) : List Int := ns.mergeSort fun a b => decide (a ≤ b)
theorem srtI_of {ns ns' : List Int} (h : ns'.Perm ns) (hs : ns'.Pairwise (· ≤ ·)) : ns' = srtI ns := by
  refine sorted_unique (le := fun a b => decide (a ≤ b)) (fun a b h1 h2 => ?_) _ _ (h.trans (List.mergeSort_perm ns _).symm) (hs.imp fun h => decide_eq_true h) (List.pairwise_mergeSort (fun a b c h1 h2 => ?_) (fun a b => ?_) ns)
  · have := of_decide_eq_true h1
    have := of_decide_eq_true h2
    omega
  · have := of_decide_eq_true h1
    have := of_decide_eq_true h2
    exact decide_eq_true (by omega)
  · rw [Bool.or_eq_true, decide_eq_true_iff, decide_eq_true_iff]
    omega
theorem srtI_iff {a b : List Int} : srtI a = srtI b ↔ a.Perm b := by
  constructor
  · intro h
    have p1 := List.mergeSort_perm a fun a b => decide (a ≤ b)
    have p2 := List.mergeSort_perm b fun a b => decide (a ≤ b)
    have h : a.mergeSort (fun a b => decide (a ≤ b)) = b.mergeSort (fun a b => decide (a ≤ b)) := h
    rw [h] at p1
    exact p1.symm.trans p2
  · intro h
    refine srtI_of ((List.mergeSort_perm a _).trans h) ?_
    exact (List.pairwise_mergeSort (le := fun a b : Int => decide (a ≤ b)) (fun a b c h1 h2 => decide_eq_true (by have := of_decide_eq_true h1; have := of_decide_eq_true h2; omega)) (fun a b => by rw [Bool.or_eq_true, decide_eq_true_iff, decide_eq_true_iff]; omega) a).imp fun h => of_decide_eq_true h
/-! ### products of differences -/
def prodZ : List Int → Int → Int
  | [], _ => 1
  | a :: A, t => (t - a) * prodZ A t
theorem prodZ_app (t : Int) : ∀ A B : List Int, prodZ (A ++ B) t = prodZ A t * prodZ B t
  | [], B => (Int.one_mul _).symm
  | a :: A, B => by
    show _ * prodZ (A ++ B) t = _ * _ * _
    rw [prodZ_app t A B, Int.mul_assoc]
theorem prodZ_perm {A B : List Int} (h : A.Perm B) (t : Int) : prodZ A t = prodZ B t := by
  induction h with
  | nil => rfl
  | cons x _ ih => show _ * _ = _ * _; rw [ih]
  | swap x y l =>
    show _ * (_ * _) = _ * (_ * _)
    grind
  | trans _ _ a b => rw [a, b]
theorem prodZ_pol {p : Int} : ∀ A : List Int, Pol p A.length (prodZ A)
  | [] => (Pol.const 1).congr fun _ => .refl
  | a :: A => ((prodZ_pol A).lin (-a) 1).congr fun t => .of_eq (by show (t - a) * prodZ A t = (-a + 1 * t) * prodZ A t; rw [Int.one_mul]; congr 1; omega)
theorem prodZ_zero {p : Int} (P : Prim p) {t : Int} : ∀ A : List Int, Cg p (prodZ A t) 0 → ∃ a ∈ A, Cg p (t - a) 0
  | [], h => absurd h P.one_ne
  | a :: A, h => by
    rcases P.mul_zero h with z | z
    · exact ⟨a, List.mem_cons_self, z⟩
    · obtain ⟨b, hb, e⟩ := prodZ_zero P A z
      exact ⟨b, List.mem_cons_of_mem _ hb, e⟩
theorem prodZ_root {t : Int} : ∀ A : List Int, t ∈ A → prodZ A t = 0
  | a :: A, h => by
    rcases List.mem_cons.mp h with rfl | h
    · show (t - t) * _ = 0
      rw [Int.sub_self, Int.zero_mul]
    · show _ * prodZ A t = 0
      rw [prodZ_root A h, Int.mul_zero]
/-- what two lists have in common -/
theorem common : ∀ (n : Nat) (A B : List Int), A.length = n → A.length = B.length → ¬ A.Perm B → ∃ C A' B' : List Int, A.Perm (C ++ A') ∧ B.Perm (C ++ B') ∧ A'.length = B'.length ∧ 0 < A'.length ∧ ∀ a ∈ A', a ∉ B'
  | 0, A, B, h0, hl, hn => by
    have a : A = [] := List.eq_nil_of_length_eq_zero h0
    have b : B = [] := List.eq_nil_of_length_eq_zero (by omega)
    subst a
    subst b
    exact absurd (List.Perm.refl _) hn
  | n + 1, A, B, h0, hl, hn => by
    by_cases h : ∃ a ∈ A, a ∈ B
    · obtain ⟨a, ha, hb⟩ := h
      have pa := List.perm_cons_erase ha
      have pb := List.perm_cons_erase hb
      have la := pa.length_eq
      have lb := pb.length_eq
      rw [List.length_cons] at la lb
      obtain ⟨C, A', B', c1, c2, c3, c4, c5⟩ := common n (A.erase a) (B.erase a) (by omega) (by omega) fun z => hn (pa.trans ((z.cons a).trans pb.symm))
      exact ⟨a :: C, A', B', pa.trans (c1.cons a), pb.trans (c2.cons a), c3, c4, c5⟩
    · exact ⟨[], A, B, List.Perm.refl _, List.Perm.refl _, hl, by omega, fun a ha hb => h ⟨a, ha, hb⟩⟩
/-! ### counting -/
theorem countP_or {α : Type} {f g h : α → Bool} : ∀ (xs : List α), (∀ x ∈ xs, f x = true → g x = true ∨ h x = true) → xs.countP f ≤ xs.countP g + xs.countP h
  | [], _ => Nat.zero_le _
  | x :: xs, H => by
    have ih := countP_or xs fun y hy => H y (List.mem_cons_of_mem _ hy)
    have hx := H x List.mem_cons_self
    rw [List.countP_cons, List.countP_cons, List.countP_cons]
    cases hf : f x with
    | false => simp only [Bool.false_eq_true, if_false]; omega
    | true =>
      rcases hx hf with z | z
      · rw [z]
        simp only [if_true]
        omega
      · rw [z]
        simp only [if_true]
        omega
theorem countP_one {xs : List Nat} (hd : xs.Nodup) (c : Int) : xs.countP (fun t : Nat => decide ((t : Int) = c)) ≤ 1 := by
  induction xs with
  | nil => exact Nat.zero_le _
  | cons x xs ih =>
    rw [List.nodup_cons] at hd
    rw [List.countP_cons]
    by_cases e : (x : Int) = c
    · have z : xs.countP (fun t : Nat => decide ((t : Int) = c)) = 0 := List.countP_eq_zero.mpr fun y hy h => by
        have := of_decide_eq_true h
        have : x = y := by omega
        subst this
        exact hd.1 hy
      rw [z, decide_eq_true e]
      simp
    · rw [decide_eq_false e]
      have := ih hd.2
      simp
      exact this
theorem countP_mem {xs : List Nat} (hd : xs.Nodup) : ∀ C : List Int, xs.countP (fun t : Nat => decide ((t : Int) ∈ C)) ≤ C.length
  | [] => by
    rw [List.countP_eq_zero.mpr fun y _ h => by simp at h]
    exact Nat.zero_le _
  | c :: C => by
    have a := countP_one hd c
    have b := countP_mem hd C
    have d := countP_or (f := fun t : Nat => decide ((t : Int) ∈ c :: C)) (g := fun t : Nat => decide ((t : Int) = c)) (h := fun t : Nat => decide ((t : Int) ∈ C)) xs fun x _ h => by
      rcases List.mem_cons.mp (of_decide_eq_true h) with z | z
      · exact .inl (decide_eq_true z)
      · exact .inr (decide_eq_true z)
    rw [List.length_cons]
    omega
theorem cgIn {p a b : Int} (ha : 0 ≤ a ∧ a < p) (hb : 0 ≤ b ∧ b < p) (h : Cg p (a - b) 0) : a = b := by
  have : Cg p a b := by
    have := Cg.add h (Cg.refl (a := b))
    rw [Int.sub_add_cancel, Int.zero_add] at this
    exact this
  exact this.eq ha hb
/-- numbers below p are different modulo p -/
theorem apart {p : Int} {xs : List Nat} (hd : xs.Nodup) (hx : ∀ x ∈ xs, (x : Int) < p) : (xs.map fun t : Nat => (t : Int)).Pairwise fun x y => ¬ Cg p (x - y) 0 := by
  rw [List.pairwise_map]
  refine List.Pairwise.imp_of_mem (R := fun a b => a ≠ b) (fun {s t} hs ht hst z => hst ?_) hd
  have := cgIn ⟨Int.natCast_nonneg s, hx s hs⟩ ⟨Int.natCast_nonneg t, hx t ht⟩ z
  omega
section
variable {p : Int} {n : Nat}
theorem few_t (P : Prim p) (hn : (n : Int) ≤ p) {A B : List Int} (hl : A.length = B.length) (hp : ¬ A.Perm B) (hA : InP p A) (hB : InP p B) : (List.range n).countP (fun t : Nat => decide (prodZ A t % p = prodZ B t % p)) ≤ A.length := by
  obtain ⟨C, A', B', c1, c2, c3, c4, c5⟩ := common _ A B rfl hl hp
  have nd : (List.range n).Nodup := List.nodup_range
  have cA : InP p (C ++ A') := fun x hx => hA x (c1.mem_iff.mpr hx)
  have cB : InP p (C ++ B') := fun x hx => hB x (c2.mem_iff.mpr hx)
  have k1 := countP_or (f := fun t : Nat => decide (prodZ A t % p = prodZ B t % p)) (g := fun t : Nat => decide ((t : Int) ∈ C)) (h := fun t : Nat => decide (prodZ A' t % p = prodZ B' t % p)) (List.range n) fun t ht h => by
    have ht : (t : Int) < p := by have := List.mem_range.mp ht; omega
    have h : prodZ A t % p = prodZ B t % p := of_decide_eq_true h
    have h : Cg p (prodZ A t) (prodZ B t) := h
    rw [prodZ_perm c1, prodZ_perm c2, prodZ_app, prodZ_app] at h
    by_cases z : Cg p (prodZ C t) 0
    · obtain ⟨c, hc, e⟩ := prodZ_zero P C z
      have := cgIn ⟨Int.natCast_nonneg t, ht⟩ (cA c (List.mem_append_left _ hc)) e
      exact .inl (decide_eq_true (this ▸ hc))
    · exact .inr (decide_eq_true (P.cancel h z))
  have k2 := countP_mem nd C
  have k3 : (List.range n).countP (fun t : Nat => decide (prodZ A' t % p = prodZ B' t % p)) ≤ A'.length := by
    rcases Nat.lt_or_ge A'.length ((List.range n).countP fun t : Nat => decide (prodZ A' t % p = prodZ B' t % p)) with z | z
    · exfalso
      rw [List.countP_eq_length_filter] at z
      obtain ⟨a, ha⟩ := List.exists_mem_of_length_pos c4
      have key := Pol.ext (p := p) (n := A'.length) P (prodZ_pol A') (c3 ▸ prodZ_pol B') (((List.range n).filter fun t : Nat => decide (prodZ A' t % p = prodZ B' t % p)).map fun t : Nat => (t : Int)) (apart (nd.filter _) fun x hx => by have := List.mem_range.mp (List.mem_filter.mp hx).1; omega) (by rw [List.length_map]; omega) (fun x hx => by
        obtain ⟨t, ht, rfl⟩ := List.mem_map.mp hx
        have e : prodZ A' t % p = prodZ B' t % p := of_decide_eq_true (List.mem_filter.mp ht).2
        exact e) a
      rw [prodZ_root A' ha] at key
      obtain ⟨b, hb, e⟩ := prodZ_zero P B' key.symm
      have := cgIn (cA a (List.mem_append_right _ ha)) (cB b (List.mem_append_right _ hb)) e
      exact c5 a ha (this ▸ hb)
    · exact z
  have := c1.length_eq
  rw [List.length_append] at this
  omega
theorem mark_pev {s : Int} : ∀ r : List Int, Cg p (markV s p r) (pev r s)
  | [] => .refl
  | x :: r => by
    refine Cg.mod.trans ?_
    show Cg p (markV s p r * s + x) (x + s * pev r s)
    rw [Int.add_comm x, Int.mul_comm s]
    exact Cg.add (Cg.mul (mark_pev r) .refl) .refl
theorem pev_sub {s : Int} : ∀ r o : List Int, r.length = o.length → pev (List.zipWith (· - ·) r o) s = pev r s - pev o s
  | [], [], _ => rfl
  | x :: r, y :: o, h => by
    show x - y + s * pev (List.zipWith (· - ·) r o) s = x + s * pev r s - (y + s * pev o s)
    rw [pev_sub r o (by simpa using h), Int.mul_sub]
    omega
theorem zip_zero : ∀ r o : List Int, r.length = o.length → InP p r → InP p o → Zer p (List.zipWith (· - ·) r o) → r = o
  | [], [], _, _, _, _ => rfl
  | x :: r, y :: o, h, hr, ho, z => by
    have e := cgIn (hr x List.mem_cons_self) (ho y List.mem_cons_self) (z (x - y) List.mem_cons_self)
    rw [e, zip_zero r o (by simpa using h) (fun a ha => hr a (List.mem_cons_of_mem _ ha)) (fun a ha => ho a (List.mem_cons_of_mem _ ha)) fun c hc => z c (List.mem_cons_of_mem _ hc)]
theorem few_s (P : Prim p) (hn : (n : Int) ≤ p) {r o : List Int} (hl : r.length = o.length) (hr : InP p r) (ho : InP p o) (hne : r ≠ o) : (List.range n).countP (fun s : Nat => decide (markV s p o = markV s p r)) + 1 ≤ r.length := by
  rcases Nat.lt_or_ge ((List.range n).countP fun s : Nat => decide (markV s p o = markV s p r)) r.length with z | z
  · exact z
  exfalso
  rw [List.countP_eq_length_filter] at z
  refine hne (zip_zero (p := p) r o hl hr ho (roots_zero P (((List.range n).filter fun s : Nat => decide (markV s p o = markV s p r)).map fun t : Nat => (t : Int)) _ (apart (List.nodup_range.filter _) fun x hx => by have := List.mem_range.mp (List.mem_filter.mp hx).1; omega) (by rw [List.length_map, List.length_zipWith]; omega) fun x hx => ?_))
  obtain ⟨t, ht, rfl⟩ := List.mem_map.mp hx
  have e := of_decide_eq_true (List.mem_filter.mp ht).2
  rw [pev_sub r o hl]
  have := Cg.sub (mark_pev (p := p) (s := (t : Int)) r).symm (mark_pev (p := p) (s := (t : Int)) o).symm
  rw [e, Int.sub_self] at this
  exact this
theorem perm_of_count {α : Type} [BEq α] [LawfulBEq α] : ∀ (R O : List α), R.length = O.length → (∀ x, R.count x ≤ O.count x) → R.Perm O
  | [], O, hl, _ => by
    have : O = [] := List.eq_nil_of_length_eq_zero hl.symm
    subst this
    exact List.Perm.refl _
  | r :: R, O, hl, h => by
    have h1 := h r
    rw [List.count_cons_self] at h1
    have hm : r ∈ O := List.count_pos_iff.mp (by omega)
    have po := List.perm_cons_erase hm
    have lo := po.length_eq
    rw [List.length_cons] at lo hl
    refine (List.Perm.cons r (perm_of_count R (O.erase r) (by omega) fun x => ?_)).trans po.symm
    have hx := h x
    rw [po.count_eq x, List.count_cons, List.count_cons] at hx
    omega
theorem more_of {R O : List (List Int)} (hl : R.length = O.length) (hp : ¬ R.Perm O) : ∃ r ∈ R, O.count r < R.count r := by
  by_cases h : ∃ r, O.count r < R.count r
  · obtain ⟨r, hr⟩ := h
    exact ⟨r, List.count_pos_iff.mp (by omega), hr⟩
  · exact absurd (perm_of_count R O hl fun x => by
      rcases Nat.lt_or_ge (O.count x) (R.count x) with z | z
      · exact absurd ⟨x, z⟩ h
      · exact z) hp
/-- where both have the same marks, another row has the mark of a row that there is more of -/
theorem pigeon {s : Int} {R O : List (List Int)} {r : List Int} (hm : (R.map (markV s p)).Perm (O.map (markV s p))) (hc : O.count r < R.count r) : ∃ o ∈ O, o ≠ r ∧ markV s p o = markV s p r := by
  by_cases h : ∃ o ∈ O, o ≠ r ∧ markV s p o = markV s p r
  · exact h
  exfalso
  have a : R.count r ≤ (R.map (markV s p)).count (markV s p r) := List.count_le_count_map
  have a2 : (O.map (markV s p)).count (markV s p r) = O.countP ((fun x => x == markV s p r) ∘ markV s p) := by unfold List.count; rw [List.countP_map]
  rw [hm.count_eq, a2] at a
  have b : O.countP ((fun x => x == markV s p r) ∘ markV s p) ≤ O.countP fun x => x == r := List.countP_mono_left fun o ho e => by
    have e : markV s p o = markV s p r := beq_iff_eq.mp e
    by_cases z : o = r
    · exact beq_iff_eq.mpr z
    · exact absurd ⟨o, ho, z, e⟩ h
  have c : O.countP (fun x => x == r) = O.count r := rfl
  omega
theorem countP_any {α β : Type} (q : β → α → Bool) (xs : List α) (k : Nat) : ∀ (L : List β) (f : α → Bool), (∀ o ∈ L, xs.countP (q o) ≤ k) → (∀ x ∈ xs, f x = true → ∃ o ∈ L, q o x = true) → xs.countP f ≤ L.length * k
  | [], f, _, h => by
    rw [List.countP_eq_zero.mpr fun x hx hf => by obtain ⟨o, ho, _⟩ := h x hx hf; cases ho]
    exact Nat.zero_le _
  | o :: L, f, hk, h => by
    have ih := countP_any q xs k L (fun x => f x && !q o x) (fun o' ho => hk o' (List.mem_cons_of_mem _ ho)) fun x hx hf => by
      rw [Bool.and_eq_true] at hf
      obtain ⟨o', ho, e⟩ := h x hx hf.1
      rcases List.mem_cons.mp ho with rfl | ho
      · rw [e] at hf
        exact absurd hf.2 (by decide)
      · exact ⟨o', ho, e⟩
    have k1 := hk o List.mem_cons_self
    have k2 := countP_or (f := f) (g := q o) (h := fun x => f x && !q o x) xs fun x _ hf => by
      rw [hf]
      cases q o x with
      | true => exact .inl rfl
      | false => exact .inr rfl
    rw [List.length_cons, Nat.add_mul, Nat.one_mul]
    omega
/-- both lists have the same marks at few throws -/
theorem few_marks (P : Prim p) (hn : (n : Int) ≤ p) {R O : List (List Int)} {w : Nat} (hl : R.length = O.length) (hp : ¬ R.Perm O) (hR : ∀ r ∈ R, InP p r ∧ r.length = w) (hO : ∀ r ∈ O, InP p r ∧ r.length = w) :
    (List.range n).countP (fun s : Nat => decide (srtI (R.map (markV s p)) = srtI (O.map (markV s p)))) ≤ O.length * (w - 1) := by
  obtain ⟨r, hr, hc⟩ := more_of hl hp
  refine countP_any (fun (o : List Int) (s : Nat) => decide (o ≠ r ∧ markV s p o = markV s p r)) (List.range n) (w - 1) O _ (fun o ho => ?_) fun s _ h => ?_
  · by_cases e : o = r
    · rw [List.countP_eq_zero.mpr fun s _ h => (of_decide_eq_true h).1 e]
      exact Nat.zero_le _
    · have a := few_s (n := n) P hn (r := r) (o := o) (by rw [(hR r hr).2, (hO o ho).2]) (hR r hr).1 (hO o ho).1 fun z => e z.symm
      have b : (List.range n).countP (fun s : Nat => decide (o ≠ r ∧ markV s p o = markV s p r)) ≤ (List.range n).countP fun s : Nat => decide (markV s p o = markV s p r) := List.countP_mono_left fun s _ h => decide_eq_true (of_decide_eq_true h).2
      rw [(hR r hr).2] at a
      omega
  · obtain ⟨o, ho, h1, h2⟩ := pigeon (srtI_iff.mp (of_decide_eq_true h)) hc
    exact ⟨o, ho, decide_eq_true ⟨h1, h2⟩⟩
theorem sum_le {α : Type} {f g : α → Nat} : ∀ xs : List α, (∀ x ∈ xs, f x ≤ g x) → (xs.map f).sum ≤ (xs.map g).sum
  | [], _ => Nat.le_refl _
  | x :: xs, h => by
    rw [List.map_cons, List.map_cons, List.sum_cons, List.sum_cons]
    have := h x List.mem_cons_self
    have := sum_le xs fun y hy => h y (List.mem_cons_of_mem _ hy)
    omega
theorem sum_ind {α : Type} {f : α → Bool} {a b : Nat} : ∀ xs : List α, (xs.map fun x => (if f x = true then a else 0) + b).sum = xs.countP f * a + xs.length * b
  | [] => by simp
  | x :: xs => by
    rw [List.map_cons, List.sum_cons, sum_ind xs, List.countP_cons, List.length_cons, Nat.add_mul, Nat.add_mul, Nat.one_mul]
    cases f x with
    | true => simp only [if_true, Nat.one_mul]; omega
    | false => simp only [Bool.false_eq_true, if_false, Nat.zero_mul]; omega
theorem bagV_prod {s t : Int} : ∀ (R : List (List Int)) (a : Int), Cg p (R.foldl (fun a r => a * (t - markV s p r) % p) a) (a * prodZ (R.map (markV s p)) t)
  | [], a => .of_eq (Int.mul_one a).symm
  | r :: R, a => by
    refine (bagV_prod R _).trans ?_
    show Cg p (a * (t - markV s p r) % p * prodZ (R.map (markV s p)) t) (a * ((t - markV s p r) * prodZ (R.map (markV s p)) t))
    rw [← Int.mul_assoc]
    exact Cg.mul Cg.mod .refl
theorem bagV_prodZ {s t : Int} (R : List (List Int)) : Cg p (bagV s t p R) (prodZ (R.map (markV s p)) t) := by
  refine (bagV_prod R (1 % p)).trans ?_
  have := Cg.mul (p := p) (Cg.mod (a := 1)) (Cg.refl (a := prodZ (R.map (markV s p)) t))
  rw [Int.one_mul] at this
  exact this
/-- how many pairs of throws let two bags look the same -/
def samePairs (R O : List (List Int)) (n : Nat) (p : Int) : Nat := ((List.range n).map fun s : Nat => (List.range n).countP fun t : Nat => decide (bagV s t p R = bagV s t p O)).sum
theorem few_pairs (P : Prim p) (hp2 : 2 ≤ p) (hn : (n : Int) = p) {R O : List (List Int)} {w : Nat} (w1 : 1 ≤ w) (hl : R.length = O.length) (hp : ¬ R.Perm O) (hR : ∀ r ∈ R, InP p r ∧ r.length = w) (hO : ∀ r ∈ O, InP p r ∧ r.length = w) :
    samePairs R O n p ≤ n * R.length * w ∧ samePairs R O n p ≤ n * n := by
  have all : ∀ s : Nat, (List.range n).countP (fun t : Nat => decide (bagV s t p R = bagV s t p O)) ≤ n := fun s => by
    have := List.countP_le_length (p := fun t : Nat => decide (bagV s t p R = bagV s t p O)) (l := List.range n)
    rw [List.length_range] at this
    exact this
  constructor
  · have a : samePairs R O n p ≤ ((List.range n).map fun s : Nat => (if decide (srtI (R.map (markV s p)) = srtI (O.map (markV s p))) = true then n else 0) + R.length).sum := by
      refine sum_le _ fun s hs => ?_
      by_cases e : srtI (R.map (markV s p)) = srtI (O.map (markV s p))
      · rw [if_pos (decide_eq_true e)]
        have := all s
        omega
      · rw [if_neg (fun z => e (of_decide_eq_true z)), Nat.zero_add]
        have k := few_t (n := n) P (by omega) (A := R.map (markV s p)) (B := O.map (markV s p)) (by rw [List.length_map, List.length_map, hl]) (fun z => e (srtI_iff.mpr z)) (fun x hx => by obtain ⟨r, _, rfl⟩ := List.mem_map.mp hx; exact markV_in hp2 r) (fun x hx => by obtain ⟨r, _, rfl⟩ := List.mem_map.mp hx; exact markV_in hp2 r)
        rw [List.length_map] at k
        refine Nat.le_trans (List.countP_mono_left fun t _ h => ?_) k
        have h : bagV s t p R = bagV s t p O := of_decide_eq_true h
        have a := bagV_prodZ (p := p) (s := (s : Int)) (t := (t : Int)) R
        have b := bagV_prodZ (p := p) (s := (s : Int)) (t := (t : Int)) O
        rw [h] at a
        exact decide_eq_true (a.symm.trans b)
    rw [sum_ind, List.length_range] at a
    have m := few_marks (n := n) P (by omega) hl hp hR hO
    have m2 := Nat.mul_le_mul_right n m
    rw [← hl] at m2
    obtain ⟨v, rfl⟩ : ∃ v, w = v + 1 := ⟨w - 1, by omega⟩
    rw [Nat.add_sub_cancel] at m2
    have e : n * R.length * (v + 1) = R.length * v * n + n * R.length := by rw [Nat.mul_add, Nat.mul_one]; congr 1; rw [Nat.mul_assoc, Nat.mul_comm]
    omega
  · have a : samePairs R O n p ≤ ((List.range n).map fun _ => (if (fun _ : Nat => false) 0 = true then 0 else 0) + n).sum := sum_le _ fun s _ => by
      have := all s
      simp
      exact this
    have e := sum_ind (f := fun _ : Nat => false) (a := 0) (b := n) (List.range n)
    simp at e a
    omega
end

end Dl
namespace K77
open PySem L2 Dl
local macro_rules | `(tactic| walk_at "dl") => `(tactic| try simp only [dSeq, dSet, dRaise_one, dRaise_two, dTryAs, dXf, dIsE, List.lookup_cons, List.lookup_nil, beq_self_eq_true, Bool.false_eq_true, if_false, dOp, dUn, dVar, dC, dCB, dCons, dNil, dRet, dRetN, dIf, dB, dAnd, dOr, dNot, dDrop, dNext, dMethL, dSetIx, dAndV, dOrV, dNotV, dBlV, dIfE, dLst, dTup, dLstM, dCall, dChain, dAsg, dgName, dgTup, bindD, asT, dFor, diList, diRng1, diRng2, diEnumerate, diZip, diReversed, dLc, dLcM, dYes, wipeD, dAug, dSl, dSlT, dpN, dpS,
  oI, oI0, oB0, oAdd, oNeg, oEq, oNe, oIx, oIsN, oNotN, isNon, oShl, oApp, oPop, oPopAt, cLen, cInt, cAbs, cSum, cMax2, cMin2, cList, cIsi, tyD, asL, asF, asK, moL_lst, ModC, DivC,
  List.getElem?_cons_zero, List.getElem?_cons_succ, List.set_cons_zero, List.set_cons_succ, List.getElem?_nil, List.length_cons, List.length_nil, List.length_map, Option.map_some, Option.bind_some, Option.isSome_some, if_true, true_and, and_true, MM.push])
local macro_rules | `(tactic| walk_at "dx") => `(tactic| try simp only [eq_self_iff_true, okE_int, okE_bl, okE_non, eqD_int, eqD_bl, kq_NoneType_int, kq_NoneType_bool, kq_NoneType_list, kq_NoneType_tuple, kq_NoneType_str, kq_bool_int, kq_bool_bool, kq_bool_list, kq_bool_tuple, kq_bool_str, kq_int_int, kq_int_bool, kq_int_list, kq_int_tuple, kq_int_str, kq_str_int, kq_str_bool, kq_str_list, kq_str_tuple, kq_str_str, kq_list_int, kq_list_bool, kq_list_list, kq_list_tuple, kq_list_str, kq_tuple_int, kq_tuple_bool, kq_tuple_list, kq_tuple_tuple, kq_tuple_str, oInL, oIsB, oNotB, oEqH, oNeH, oShr, oExt, cMaxL, cMinL, cAny, cAll, cTuple, cListM, dRevL, dFld, dSetF, dAugF, dMeth, dMake, moI_ins, app_len, set_app, List.contains_cons, List.contains_nil, Bool.true_or,  Bool.true_eq_false, decide_true, not_true_eq_false, not_false_eq_true, Bool.not_true, Bool.not_false, decide_eq_true_eq, Bool.not_eq_true', decide_eq_false_iff_not, dSeq, dSet, dRaise_one, dRaise_two, dTryAs, dXf, dIsE, List.lookup_cons, List.lookup_nil, beq_self_eq_true, Bool.false_eq_true, if_false, dOp, dUn, dVar, dC, dCB, dCons, dNil, dRet, dRetN, dIf, dB, dAnd, dOr, dNot, dDrop, dNext, dMethL, dSetIx, dAndV, dOrV, dNotV, dBlV, dIfE, dLst, dTup, dLstM, dCall, dChain, dAsg, dgName, dgTup, bindD, asT, dFor, diList, diRng1, diRng2, diEnumerate, diZip, diReversed, dLc, dLcM, dYes, wipeD, dAug, dSl, dSlT, dpN, dpS,
  oI, oI0, oB0, oAdd, oNeg, oEq, oNe, oIx, oIsN, oNotN, isNon, oShl, oApp, oPop, oPopAt, cLen, cInt, cAbs, cSum, cMax2, cMin2, cList, cIsi, tyD, asL, asF, asK, moL_lst, ModC, DivC,
  List.getElem?_cons_zero, List.getElem?_cons_succ, List.set_cons_zero, List.set_cons_succ, List.getElem?_nil, List.length_cons, List.length_nil, List.length_map, Option.map_some, Option.bind_some, Option.isSome_some, if_true, true_and, and_true, MM.push])
local macro_rules | `(tactic| walk_at "lim") => `(tactic| repeat (first | (refine ⟨by decide, ?_⟩) | (refine ⟨by (try simp only [List.length_map, List.length_dropLast, List.length_append, List.length_cons, List.length_nil, List.length_replicate, List.length_take, List.length_drop, List.length_range]); (show _ ≤ 16777216); omega, ?_⟩)))

set_option hygiene false in
local macro_rules | `(tactic| walk_at "stp") => `(tactic| (refine dSeq_k fun k1 h1 => ?_; walk_at "dx"))
set_option hygiene false in
local macro_rules | `(tactic| walk_at "nxt") => `(tactic| (subst h1; (try dsimp only); refine dSeq_k fun k1 h1 => ?_; walk_at "dx"))
set_option hygiene false in
local macro_rules | `(tactic| walk_at "lst") => `(tactic| (subst h1; (try dsimp only); walk_at "dx"))
set_option hygiene false in
local macro_rules | `(tactic| walk_at "nxt2") => `(tactic| (subst h2; (try dsimp only); refine dSeq_k fun k2 h2 => ?_; walk_at "dx"))
set_option hygiene false in
local macro_rules | `(tactic| walk_at "stp2") => `(tactic| (refine dSeq_k fun k2 h2 => ?_; walk_at "dx"))
set_option hygiene false in
local macro_rules | `(tactic| walk_at "lst2") => `(tactic| (subst h2; (try dsimp only); walk_at "dx"))
set_option hygiene false in
local macro_rules | `(tactic| walk_at "nx0") => `(tactic| (subst h1; (try dsimp only); refine dSeq_k fun k1 h1 => ?_))

/-! ### contracts of the law's own defs -/
def C__law_rows : DC := fun ds m Φ _ => ∃ (n w : Nat) (p : Int), ds = [.st 0, .int (n : Nat), .int (w : Nat), .int p] ∧ m.s = 1 ∧ PM p ∧ n ≤ 12 ∧ 1 ≤ w ∧ w ≤ 4 ∧ ∀ R : List (List Int), R.length = n → (∀ r ∈ R, InP p r ∧ r.length = w) → Φ (rwsD R) m
def C__law_mark : DC := fun ds m Φ _ => ∃ (r : List Int) (s p : Int), ds = [.lst (r.map D.int), .int s, .int p] ∧ PM p ∧ InP p r ∧ r.length ≤ 10 ∧ 0 ≤ s ∧ s < p ∧ Φ (.int (markV s p r)) m
def C__law_product : DC := fun ds m Φ _ => ∃ (R : List (List Int)) (s t p : Int), ds = [rwsD R, .int s, .int t, .int p] ∧ PM p ∧ RwP p R ∧ 0 ≤ s ∧ s < p ∧ 0 ≤ t ∧ t < p ∧ Φ (.int (bagV s t p R)) m
def C__law_turned : DC := fun ds m Φ _ => ∃ (R : List (List Int)), ds = [.st 0, rwsD R] ∧ m.s = 1 ∧ R.length ≤ 40 ∧ ∀ O : List (List Int), O.Perm R → Φ (rwsD O) m
def C__law_times : DC := fun ds m Φ _ => ∃ (R : List (List Int)) (x : List Int), ds = [rwsD R, .lst (x.map D.int)] ∧ R.length ≤ 1000 ∧ Φ (.int ((R.count x : Nat) : Int)) m
def C_count_of : DC := fun ds m Φ _ => ∃ (R : List (List Int)) (x : List Int), ds = [rwsD R, .lst (x.map D.int)] ∧ R.length ≤ 1000 ∧ Φ (.int ((R.count x : Nat) : Int)) m
def fndO (O : List (List Int)) (s p : Int) (r : List Int) : Option (List Int) := O.find? fun o => decide (o ≠ r ∧ markV s p o = markV s p r)
def fndR (R O : List (List Int)) (s p : Int) : List (List Int) → Option (List Int × List Int)
  | [] => none
  | r :: rest => if O.count r < R.count r then (match fndO O s p r with
    | some o => some (r, o)
    | none => fndR R O s p rest) else fndR R O s p rest
def rowsR (dflt : D) : Option (List Int × List Int) → D
  | some z => .tup [.str (PySem.Str.ofString "rows"), .lst (z.1.map D.int), .lst (z.2.map D.int)]
  | none => dflt
def bbD (R O : List (List Int)) (s t p : Int) (dflt : D) : D :=
  if sortR R = sortR O ∨ bagV s t p R ≠ bagV s t p O then .non else if srtI (R.map (markV s p)) ≠ srtI (O.map (markV s p)) then .tup [.str (PySem.Str.ofString "point"), .int t] else rowsR dflt (fndR R O s p R)
def noneD : D := .tup [.str (PySem.Str.ofString "none")]
structure BagP (R O : List (List Int)) (s t p : Int) : Prop where
  hp : PM p
  hR : RwP p R
  hO : RwP p O
  hl : R.length = O.length
  s0 : 0 ≤ s
  s1 : s < p
  t0 : 0 ≤ t
  t1 : t < p
def C_bag_blame : DC := fun ds m Φ _ => ∃ (R O : List (List Int)) (s t p : Int), ds = [rwsD R, rwsD O, .int s, .int t, .int p] ∧ BagP R O s t p ∧ Φ (bbD R O s t p .non) m
def C__law_due : DC := fun ds m Φ _ => ∃ (R O : List (List Int)) (s t p : Int), ds = [rwsD R, rwsD O, .int s, .int t, .int p] ∧ BagP R O s t p ∧ Φ (bbD R O s t p noneD) m
def mostI (n w p : Int) : Int := if p * n * w < p * p then p * n * w else p * p
def C_most_same : DC := fun ds m Φ _ => ∃ (n w : Nat) (p : Int), ds = [.int (n : Nat), .int (w : Nat), .int p] ∧ 0 ≤ p ∧ p ≤ 1000 ∧ n ≤ 1000 ∧ 1 ≤ w ∧ Φ (.int (mostI n w p)) m
def C__law_other : DC := fun ds m Φ _ => ∃ (R : List (List Int)) (w : Nat) (p : Int), ds = [.st 0, rwsD R, .int (w : Nat), .int p] ∧ m.s = 1 ∧ PM p ∧ 0 < R.length ∧ R.length ≤ 6 ∧ 1 ≤ w ∧ w ≤ 3 ∧ (∀ r ∈ R, InP p r ∧ r.length = w) ∧ ∀ O : List (List Int), O.length = R.length → (∀ r ∈ O, InP p r ∧ r.length = w) → Φ (rwsD O) m

/- count_of: slots 0=rows 1=row 2=other -/
def W_count_of : DS := dRet (dCB cLen (dCons (dLc (diList (dVar 0)) (dgName 2) (dB (dOp oEq (dVar 2) (dVar 1))) (dVar 2) [2]) (dNil)))
/- bag_blame: slots 0=rows 1=others 2=s 3=t 4=p 5=marks 6=row 7=other -/
def W_bag_blame : DS := dSeq (dIf (dOr (dB (dOp oEq (dCB cSortR (dCons (dVar 0) (dNil))) (dCB cSortR (dCons (dVar 1) (dNil))))) (dNot (dB (dCall 5 C_same_bag (dCons (dVar 0) (dCons (dVar 1) (dCons (dVar 2) (dCons (dVar 3) (dCons (dVar 4) (dNil)))))))))) (dRet (dC .non)) (dNext)) (dSeq (dSet 5 (dCB cSortI (dCons (dLc (diList (dVar 0)) (dgName 6) (dYes) (dCall 3 C_mark (dCons (dVar 6) (dCons (dVar 2) (dCons (dVar 4) (dNil))))) [6]) (dNil)))) (dSeq (dIf (dB (dOp oNe (dVar 5) (dCB cSortI (dCons (dLc (diList (dVar 1)) (dgName 6) (dYes) (dCall 3 C_mark (dCons (dVar 6) (dCons (dVar 2) (dCons (dVar 4) (dNil))))) [6]) (dNil))))) (dRet (dTup (dCons (dC (.str (PySem.Str.ofString "point"))) (dCons (dVar 3) (dNil))))) (dNext)) (dSeq (dFor (diList (dVar 0)) (dgName 6) (dIf (dB (dOp oGt (dCall 2 C_count_of (dCons (dVar 0) (dCons (dVar 6) (dNil)))) (dCall 2 C_count_of (dCons (dVar 1) (dCons (dVar 6) (dNil)))))) (dFor (diList (dVar 1)) (dgName 7) (dIf (dAnd (dB (dOp oNe (dVar 7) (dVar 6))) (dB (dOp oEq (dCall 3 C_mark (dCons (dVar 7) (dCons (dVar 2) (dCons (dVar 4) (dNil))))) (dCall 3 C_mark (dCons (dVar 6) (dCons (dVar 2) (dCons (dVar 4) (dNil)))))))) (dRet (dTup (dCons (dC (.str (PySem.Str.ofString "rows"))) (dCons (dCB cList (dCons (dVar 6) (dNil))) (dCons (dCB cList (dCons (dVar 7) (dNil))) (dNil)))))) (dNext))) (dNext))) (dRet (dC .non)))))
/- most_same: slots 0=many 1=width 2=p -/
def W_most_same : DS := dRet (dCB cMin2 (dCons (dOp oMul (dVar 2) (dVar 2)) (dCons (dOp oMul (dOp oMul (dVar 2) (dVar 0)) (dCB cMax2 (dCons (dC (.int 1)) (dCons (dVar 1) (dNil))))) (dNil))))
/- _law_rows: slots 0=_law_state_here 1=_law_many 2=_law_width 3=_law_p 4=_law_pool 5=_law_j 6=_law_k -/
def W__law_rows : DS := dSeq (dSet 4 (dLc (diRng1 (dCons (dOp oAdd (dC (.int 1)) (dCall 2 C_draw (dCons (dVar 0) (dCons (dOp oAdd (dVar 1) (dC (.int 1))) (dNil))))) (dNil))) (dgName 5) (dYes) (dLc (diRng1 (dCons (dVar 2) (dNil))) (dgName 6) (dYes) (dCall 2 C_draw (dCons (dVar 0) (dCons (dVar 3) (dNil)))) [6]) [5])) (dRet (dLc (diRng1 (dCons (dVar 1) (dNil))) (dgName 6) (dYes) (dCB cList (dCons (dCall 2 C_pick (dCons (dVar 0) (dCons (dVar 4) (dNil)))) (dNil))) [6]))
/- _law_mark: slots 0=_law_row 1=_law_s 2=_law_p 3=_law_total 4=_law_factor 5=_law_number -/
def W__law_mark : DS := dSeq (dSet 3 (dC (.int 0))) (dSeq (dSet 4 (dC (.int 1))) (dSeq (dFor (diList (dVar 0)) (dgName 5) (dSeq (dSet 3 (dOp oMod (dCB cInt (dCons (dOp oAdd (dVar 3) (dOp oMul (dVar 5) (dVar 4))) (dNil))) (dVar 2))) (dSet 4 (dOp oMod (dCB cInt (dCons (dOp oMul (dVar 4) (dVar 1)) (dNil))) (dVar 2))))) (dRet (dVar 3))))
/- _law_product: slots 0=_law_rows_here 1=_law_s 2=_law_t 3=_law_p 4=_law_result 5=_law_row -/
def W__law_product : DS := dSeq (dSet 4 (dC (.int 1))) (dSeq (dFor (diList (dVar 0)) (dgName 5) (dSet 4 (dOp oMod (dCB cInt (dCons (dOp oMul (dVar 4) (dOp oSub (dVar 2) (dCall 3 C__law_mark (dCons (dVar 5) (dCons (dVar 1) (dCons (dVar 3) (dNil))))))) (dNil))) (dVar 3)))) (dRet (dOp oMod (dCB cInt (dCons (dVar 4) (dNil))) (dVar 3))))
/- _law_turned: slots 0=_law_state_here 1=_law_rows_here 2=_law_left 3=_law_found -/
def W__law_turned : DS := dSeq (dSet 2 (dCB cListM (dCons (dVar 1) (dNil)))) (dSeq (dSet 3 (dLstM (dNil))) (dSeq (dWhile (dB (dOp oGt (dCB cLen (dCons (dVar 2) (dNil))) (dC (.int 0)))) (dDrop (dMethL oApp (dVar 3) (dCons (dMethL oPopAt (dVar 2) (dCons (dCall 2 C_draw (dCons (dVar 0) (dCons (dCB cLen (dCons (dVar 2) (dNil))) (dNil)))) (dNil))) (dNil))))) (dRet (dVar 3))))
/- _law_times: slots 0=_law_rows_here 1=_law_row 2=_law_other_here -/
def W__law_times : DS := dRet (dCB cLen (dCons (dLc (diList (dVar 0)) (dgName 2) (dB (dOp oEq (dVar 2) (dVar 1))) (dVar 2) [2]) (dNil)))
/- _law_other: slots 0=_law_state_here 1=_law_rows_here 2=_law_width 3=_law_p 4=_law_kind 5=_law_other_here 6=_law_k 7=_law_row 8=_law_j -/
def W__law_other : DS := dSeq (dSet 4 (dCall 2 C_draw (dCons (dVar 0) (dCons (dC (.int 4)) (dNil))))) (dSeq (dSet 5 (dLcH (diList (dCall 2 C__law_turned (dCons (dVar 0) (dCons (dVar 1) (dNil))))) (dgName 7) (dYes) (dCB cListM (dCons (dVar 7) (dNil))) [7])) (dSeq (dSet 6 (dCall 2 C_draw (dCons (dVar 0) (dCons (dCB cLen (dCons (dVar 5) (dNil))) (dNil))))) (dSeq (dSet 7 (dOp oIx (dVar 5) (dVar 6))) (dSeq (dIf (dB (dOp oEq (dVar 4) (dC (.int 0)))) (dSetIx (dCall 2 C_draw (dCons (dVar 0) (dCons (dVar 3) (dNil)))) (dVar 7) (dCall 2 C_draw (dCons (dVar 0) (dCons (dVar 2) (dNil))))) (dIf (dB (dOp oEq (dVar 4) (dC (.int 1)))) (dSetIx (dLc (diRng1 (dCons (dVar 2) (dNil))) (dgName 8) (dYes) (dCall 2 C_draw (dCons (dVar 0) (dCons (dVar 3) (dNil)))) [8]) (dVar 5) (dVar 6)) (dIf (dB (dOp oEq (dVar 4) (dC (.int 2)))) (dSetIx (dCB cList (dCons (dOp oIx (dVar 5) (dCall 2 C_draw (dCons (dVar 0) (dCons (dCB cLen (dCons (dVar 5) (dNil))) (dNil))))) (dNil))) (dVar 5) (dVar 6)) (dSet 5 (dLcM (diList (dVar 1)) (dgName 7) (dYes) (dLc (diRng1 (dCons (dVar 2) (dNil))) (dgName 8) (dYes) (dCall 2 C_draw (dCons (dVar 0) (dCons (dVar 3) (dNil)))) [8]) [7]))))) (dFrz 5 (dFrzY 5 (dRet (dVar 5))))))))
/- _law_due: slots 0=_law_rows_here 1=_law_others 2=_law_s 3=_law_t 4=_law_p 5=_law_row 6=_law_found 7=_law_one -/
def W__law_due : DS := dSeq (dIf (dOr (dB (dOp oEq (dCB cSortR (dCons (dVar 0) (dNil))) (dCB cSortR (dCons (dVar 1) (dNil))))) (dB (dOp oNe (dCall 4 C__law_product (dCons (dVar 0) (dCons (dVar 2) (dCons (dVar 3) (dCons (dVar 4) (dNil)))))) (dCall 4 C__law_product (dCons (dVar 1) (dCons (dVar 2) (dCons (dVar 3) (dCons (dVar 4) (dNil))))))))) (dRet (dC .non)) (dNext)) (dSeq (dIf (dB (dOp oNe (dCB cSortI (dCons (dLc (diList (dVar 0)) (dgName 5) (dYes) (dCall 3 C__law_mark (dCons (dVar 5) (dCons (dVar 2) (dCons (dVar 4) (dNil))))) [5]) (dNil))) (dCB cSortI (dCons (dLc (diList (dVar 1)) (dgName 5) (dYes) (dCall 3 C__law_mark (dCons (dVar 5) (dCons (dVar 2) (dCons (dVar 4) (dNil))))) [5]) (dNil))))) (dRet (dTup (dCons (dC (.str (PySem.Str.ofString "point"))) (dCons (dVar 3) (dNil))))) (dNext)) (dSeq (dFor (diList (dVar 0)) (dgName 5) (dIf (dB (dOp oGt (dCall 2 C__law_times (dCons (dVar 0) (dCons (dVar 5) (dNil)))) (dCall 2 C__law_times (dCons (dVar 1) (dCons (dVar 5) (dNil)))))) (dSeq (dSet 6 (dLc (diList (dVar 1)) (dgName 7) (dAnd (dB (dOp oNe (dVar 7) (dVar 5))) (dB (dOp oEq (dCall 3 C__law_mark (dCons (dVar 7) (dCons (dVar 2) (dCons (dVar 4) (dNil))))) (dCall 3 C__law_mark (dCons (dVar 5) (dCons (dVar 2) (dCons (dVar 4) (dNil)))))))) (dVar 7) [7])) (dIf (dB (dOp oGt (dCB cLen (dCons (dVar 6) (dNil))) (dC (.int 0)))) (dRet (dTup (dCons (dC (.str (PySem.Str.ofString "rows"))) (dCons (dVar 5) (dCons (dOp oIx (dVar 6) (dC (.int 0))) (dNil)))))) (dNext))) (dNext))) (dRet (dTup (dCons (dC (.str (PySem.Str.ofString "none"))) (dNil))))))
/- law: slots 0=_law_script 1=_law_state_here 2=_law_p 3=_law_width 4=_law_rows_here 5=_law_others 6=_law_count 7=_law_s 8=_law_most 9=_law_t 10=_law_told 11=_law_due_here -/
def W_law : DS := dSeq (dSet 1 (dCall 1 C_state (dCons (dVar 0) (dNil)))) (dSeq (dSet 2 (dCall 2 C_pick (dCons (dVar 1) (dCons (dLst (dCons (dC (.int 2)) (dCons (dC (.int 3)) (dCons (dC (.int 5)) (dCons (dC (.int 7)) (dCons (dC (.int 11)) (dCons (dC (.int 13)) (dNil)))))))) (dNil))))) (dSeq (dSet 3 (dOp oAdd (dC (.int 1)) (dCall 2 C_draw (dCons (dVar 1) (dCons (dC (.int 3)) (dNil)))))) (dSeq (dSet 4 (dCall 4 C__law_rows (dCons (dVar 1) (dCons (dOp oAdd (dC (.int 1)) (dCall 2 C_draw (dCons (dVar 1) (dCons (dC (.int 6)) (dNil))))) (dCons (dVar 3) (dCons (dVar 2) (dNil))))))) (dSeq (dSet 5 (dCall 4 C__law_other (dCons (dVar 1) (dCons (dVar 4) (dCons (dVar 3) (dCons (dVar 2) (dNil))))))) (dSeq (dSet 6 (dC (.int 0))) (dSeq (dFor (diRng1 (dCons (dVar 2) (dNil))) (dgName 7) (dFor (diRng1 (dCons (dVar 2) (dNil))) (dgName 9) (dSeq (dSet 10 (dCall 5 C_same_bag (dCons (dVar 4) (dCons (dVar 5) (dCons (dVar 7) (dCons (dVar 9) (dCons (dVar 2) (dNil)))))))) (dSeq (dSet 11 (dCall 5 C__law_due (dCons (dVar 4) (dCons (dVar 5) (dCons (dVar 7) (dCons (dVar 9) (dCons (dVar 2) (dNil)))))))) (dSeq (dIf (dOr (dB (dOp oNe (dCall 5 C_bag_blame (dCons (dVar 4) (dCons (dVar 5) (dCons (dVar 7) (dCons (dVar 9) (dCons (dVar 2) (dNil))))))) (dVar 11))) (dB (dOp oEq (dVar 11) (dTup (dCons (dC (.str (PySem.Str.ofString "none"))) (dNil)))))) (dRet (dC (.bl false))) (dNext)) (dIf (dB (dOp oEq (dCB cSortR (dCons (dVar 4) (dNil))) (dCB cSortR (dCons (dVar 5) (dNil))))) (dIf (dB (dOp oNotB (dVar 10) (dC (.bl true)))) (dRet (dC (.bl false))) (dNext)) (dIf (dB (dOp oNe (dVar 10) (dOp oNotN (dVar 11) (dC .non)))) (dRet (dC (.bl false))) (dSet 6 (dOp oAdd (dVar 6) (dCB cInt (dCons (dVar 10) (dNil)))))))))))) (dSeq (dSet 8 (dCall 3 C_most_same (dCons (dCB cLen (dCons (dVar 4) (dNil))) (dCons (dVar 3) (dCons (dVar 2) (dNil)))))) (dRet (dAndV (dOp oEq (dVar 8) (dCB cMin2 (dCons (dOp oMul (dVar 2) (dVar 2)) (dCons (dOp oMul (dOp oMul (dVar 2) (dCB cLen (dCons (dVar 4) (dNil)))) (dVar 3)) (dNil))))) (dOp oLe (dVar 6) (dVar 8)))))))))))
theorem rd__law_rows : ∀ ds m Φ Ψ, ds.length = 4 → C__law_rows ds m Φ Ψ → W__law_rows { nx := fun _ m' => Φ .non m', rt := Φ } (fun _ => Ψ) (ds.map some ++ List.replicate (7 - ds.length) none) m := by
  intro ds m Φ Ψ _ h
  obtain ⟨n, w, p, rfl, hs, hp, hn, w1, w4, q⟩ := h
  have hp1 := hp.1
  have hp2 := hp.2
  change W__law_rows _ _ [some (.st 0), some (.int (n : Nat)), some (.int (w : Nat)), some (.int p), none, none, none] m
  unfold W__law_rows
  walk_at "stp"
  refine ⟨(n : Nat) + 1, rfl, hs, by omega, by omega, fun k k0 k1 => ?_⟩
  obtain ⟨k, rfl⟩ := Int.eq_ofNat_of_zero_le k0
  walk_at "dx"
  rw [show (1 : Int) + (k : Nat) = ((k + 1 : Nat) : Int) by omega]
  refine ⟨⟨by omega, by omega⟩, ?_⟩
  rw [Int.toNat_natCast, rngD0]
  refine lcW_any (out := rwL) (fun _ (r : List Int) => InP p r ∧ r.length = w) _ (fun x m' Θ em h => ?_) (fun r => clAll_ints r) _ [] (by rw [List.length_nil, List.length_range]; show _ ≤ 16777216; omega) (fun pool hz => ?_)
  · refine ⟨rfl, ?_⟩
    walk_at "dx"
    refine ⟨⟨by omega, by omega⟩, ?_⟩
    rw [Int.toNat_natCast, rngD0]
    refine lcW_any (out := D.int) (fun _ (z : Int) => 0 ≤ z ∧ z < p) _ (fun x m2 Θ2 em2 h2 => ?_) (fun _ => rfl) _ [] (by rw [List.length_nil, List.length_range]; show _ ≤ 16777216; omega) (fun zs hzs => ?_)
    · refine ⟨rfl, ?_⟩
      walk_at "dx"
      exact ⟨p, rfl, by rw [em2, em]; exact hs, by omega, by omega, fun r r0 r1 => h2 r ⟨r0, r1⟩⟩
    · exact h zs ⟨fun x hx => all2_mem hzs x hx, by rw [← hzs.length, List.length_range]⟩
  have pl : pool.length = k + 1 := by rw [← hz.length, List.length_range]
  have pi : ∀ r ∈ pool, InP p r ∧ r.length = w := fun r hr => all2_mem hz r hr
  clear hz
  rw [List.nil_append]
  walk_at "lst"
  refine ⟨⟨by omega, by omega⟩, ?_⟩
  rw [Int.toNat_natCast, rngD0]
  refine lcW_any (out := rwL) (fun _ (r : List Int) => InP p r ∧ r.length = w) _ (fun x m' Θ em h => ?_) (fun r => clAll_ints r) _ [] (by rw [List.length_nil, List.length_range]; show _ ≤ 16777216; omega) (fun R hz => ?_)
  · refine ⟨rfl, ?_⟩
    walk_at "dx"
    refine ⟨_, rfl, by rw [em]; exact hs, by rw [List.length_map]; omega, by rw [List.length_map]; omega, fun d hd => ?_⟩
    obtain ⟨r, hr, rfl⟩ := List.mem_map.mp hd
    unfold rwL
    walk_at "dx"
    exact h r (pi r hr)
  · rw [List.nil_append]
    exact q R (by rw [← hz.length, List.length_range]) fun r hr => all2_mem hz r hr
theorem lmark_eq {s p : Int} : ∀ (r : List Int) (a f : Int), Cg p ((r.foldl (fun (z : Int × Int) x => ((z.1 + x * z.2) % p, z.2 * s % p)) (a, f)).1) (a + f * markV s p r)
  | [], a, f => .of_eq (by show a = a + f * 0; rw [Int.mul_zero, Int.add_zero])
  | x :: r, a, f => by
    refine (lmark_eq r ((a + x * f) % p) (f * s % p)).trans ?_
    refine (Cg.add Cg.mod (Cg.mul Cg.mod .refl)).trans ?_
    show Cg p (a + x * f + f * s * markV s p r) (a + f * ((markV s p r * s + x) % p))
    refine Cg.trans (.of_eq ?_) (Cg.add .refl (Cg.mul .refl Cg.mod.symm))
    grind
theorem rd__law_mark : ∀ ds m Φ Ψ, ds.length = 3 → C__law_mark ds m Φ Ψ → W__law_mark { nx := fun _ m' => Φ .non m', rt := Φ } (fun _ => Ψ) (ds.map some ++ List.replicate (6 - ds.length) none) m := by
  intro ds m Φ Ψ _ h
  obtain ⟨r, s, p, rfl, hp, hr, hl, s0, s1, q⟩ := h
  have hp1 := hp.1
  have hp2 := hp.2
  change W__law_mark _ _ [some (.lst (r.map D.int)), some (.int s), some (.int p), none, none, none] m
  unfold W__law_mark
  walk_at "stp"
  walk_at "nxt"
  walk_at "nxt"
  refine forW_map (inj := D.int) (fun q' ρ m' => ∃ (a f : Int) (v5 : Option D), (0 ≤ a ∧ a < p) ∧ (0 ≤ f ∧ f < p) ∧ (∀ x ∈ q', 0 ≤ x ∧ x < p) ∧ (q'.foldl (fun (z : Int × Int) x => ((z.1 + x * z.2) % p, z.2 * s % p)) (a, f)).1 = (r.foldl (fun (z : Int × Int) x => ((z.1 + x * z.2) % p, z.2 * s % p)) (0, 1)).1 ∧
    ρ = [some (.lst (r.map D.int)), some (.int s), some (.int p), some (.int a), some (.int f), v5] ∧ m' = m) ?_ ?_ r _ _ ⟨0, 1, none, ⟨by decide, by omega⟩, ⟨by decide, by omega⟩, hr, rfl, rfl, rfl⟩
  · rintro x q' kk hkk ρ m' ⟨a, f, v5, a0, f0, hx, e, rfl, rfl⟩
    have x0 := hx x List.mem_cons_self
    clear h1
    walk_at "stp"
    refine ⟨mulL x0.1 (by omega), by omega, ?_⟩
    walk_at "lst"
    exact ⟨mulL f0.1 (by omega), by omega, hkk _ _ ⟨_, _, _, mod_in hp1, mod_in hp1, fun y hy => hx y (List.mem_cons_of_mem _ hy), e, rfl, rfl⟩⟩
  · rintro ρ m' ⟨a, f, v5, a0, f0, hx, e, rfl, rfl⟩
    walk_at "lst"
    have e : a = (r.foldl (fun (z : Int × Int) x => ((z.1 + x * z.2) % p, z.2 * s % p)) (0, 1)).1 := e
    have e2 := lmark_eq (s := s) (p := p) r 0 1
    rw [← e, Int.zero_add, Int.one_mul] at e2
    rw [show a = markV s p r from e2.eq a0 (markV_in hp1 r)]
    exact q
theorem lbag_eq {s t p : Int} : ∀ (R : List (List Int)) (a b : Int), Cg p a b → Cg p (R.foldl (fun a r => a * (t - markV s p r) % p) a) (R.foldl (fun a r => a * (t - markV s p r) % p) b)
  | [], _, _, h => h
  | r :: R, a, b, h => lbag_eq R _ _ ((Cg.mod.trans (Cg.mul h .refl)).trans Cg.mod.symm)
theorem rd__law_product : ∀ ds m Φ Ψ, ds.length = 4 → C__law_product ds m Φ Ψ → W__law_product { nx := fun _ m' => Φ .non m', rt := Φ } (fun _ => Ψ) (ds.map some ++ List.replicate (6 - ds.length) none) m := by
  intro ds m Φ Ψ _ h
  obtain ⟨R, s, t, p, rfl, hp, hR, s0, s1, t0, t1, q⟩ := h
  have hp1 := hp.1
  have hp2 := hp.2
  change W__law_product _ _ [some (rwsD R), some (.int s), some (.int t), some (.int p), none, none] m
  unfold W__law_product rwsD
  walk_at "stp"
  walk_at "nxt"
  refine forW_map (inj := rwL) (fun q' ρ m' => ∃ (a : Int) (v5 : Option D), (0 ≤ a ∧ a < p) ∧ (∀ r ∈ q', InP p r ∧ r.length ≤ 10) ∧ q'.foldl (fun a r => a * (t - markV s p r) % p) a = R.foldl (fun a r => a * (t - markV s p r) % p) 1 ∧ ρ = [some (rwsD R), some (.int s), some (.int t), some (.int p), some (.int a), v5] ∧ m' = m) ?_ ?_ R _ _ ⟨1, none, ⟨by decide, by omega⟩, hR.2, rfl, rfl, rfl⟩
  · rintro x q' kk hkk ρ m' ⟨a, v5, a0, hx, e, rfl, rfl⟩
    have x0 := hx x List.mem_cons_self
    unfold rwL
    clear h1
    walk_at "dx"
    refine ⟨x, s, p, rfl, hp, x0.1, x0.2, s0, s1, ?_⟩
    walk_at "dx"
    refine ⟨mulL a0.1 (by omega), by omega, hkk _ _ ⟨_, _, mod_in hp1, fun y hy => hx y (List.mem_cons_of_mem _ hy), e, rfl, rfl⟩⟩
  · rintro ρ m' ⟨a, v5, a0, hx, e, rfl, rfl⟩
    walk_at "lst"
    have e : a = R.foldl (fun a r => a * (t - markV s p r) % p) 1 := e
    have e2 : Cg p a (bagV s t p R) := by
      rw [e]
      exact lbag_eq R 1 (1 % p) Cg.mod.symm
    refine ⟨by omega, ?_⟩
    rw [show a % p = bagV s t p R from (Cg.mod.trans e2).eq (mod_in hp1) (bagV_in hp1 R)]
    exact q
theorem perm_erase {α : Type} : ∀ (X : List α) (j : Nat) (h : j < X.length), (X[j] :: X.eraseIdx j).Perm X
  | _ :: _, 0, _ => List.Perm.refl _
  | x :: X, j + 1, h => by
    show (X[j]'(by simpa using h) :: x :: X.eraseIdx j).Perm (x :: X)
    exact (List.Perm.swap _ _ _).trans ((perm_erase X j (by simpa using h)).cons _)
theorem erase_map {α β : Type} {f : α → β} : ∀ (X : List α) (j : Nat), (X.map f).eraseIdx j = (X.eraseIdx j).map f
  | [], _ => rfl
  | _ :: _, 0 => rfl
  | x :: X, j + 1 => congrArg (f x :: ·) (erase_map X j)
theorem rd__law_turned : ∀ ds m Φ Ψ, ds.length = 2 → C__law_turned ds m Φ Ψ → W__law_turned { nx := fun _ m' => retQ m Φ .non m', rt := retQ m Φ } (fun _ => retX m Ψ) (ds.map some ++ List.replicate (4 - ds.length) none) m := by
  intro ds m Φ Ψ _ h
  obtain ⟨R, rfl, hs, hl, q⟩ := h
  have eR : rwsD R = .lst (R.map fun r => D.lst (r.map D.int)) := rfl
  change W__law_turned _ _ [some (.st 0), some (rwsD R), none, none] m
  unfold W__law_turned
  rw [eR]
  walk_at "stp"
  walk_at "nxt"
  refine ⟨by decide, ?_⟩
  subst h1
  refine dSeq_k fun k1 h1 => ?_
  unfold dWhile
  rw [show (m.M ++ [MO.lst (R.map fun r => D.lst (r.map D.int))]).length = m.M.length + 1 by rw [List.length_append]; rfl]
  refine ⟨fun k ρ m' => ∃ X Y : List (List Int), k = X.length ∧ (Y ++ X).Perm R ∧ ρ = [some (.st 0), some (rwsD R), some (.hnd m.M.length), some (.hnd (m.M.length + 1))] ∧ m' = ⟨m.M ++ [.lst (X.map fun r => D.lst (r.map D.int))] ++ [.lst (Y.map fun r => D.lst (r.map D.int))], m.s⟩, ⟨_, R, [], rfl, List.Perm.refl _, rfl, rfl⟩, ?_⟩
  rintro k ρ m' ⟨X, Y, rfl, hp, rfl, rfl⟩
  have XY := hp.length_eq
  rw [List.length_append] at XY
  have a1 : ∀ u v : MO, (m.M ++ [u] ++ [v])[m.M.length]? = some u := fun u v => by rw [List.append_assoc]; exact app_len2
  have a2 : ∀ u v : MO, (m.M ++ [u] ++ [v])[m.M.length + 1]? = some v := fun u v => by
    rw [List.getElem?_append_right (by rw [List.length_append]; exact Nat.le_refl _), List.length_append]
    simp
  have a3 : ∀ u v w : MO, (m.M ++ [u] ++ [v]).set m.M.length w = m.M ++ [w] ++ [v] := fun u v w => by rw [List.append_assoc, List.append_assoc]; exact set_app2
  have a4 : ∀ u v w : MO, (m.M ++ [u] ++ [v]).set (m.M.length + 1) w = m.M ++ [u] ++ [w] := fun u v w => by
    have e : m.M.length + 1 = (m.M ++ [u]).length := by rw [List.length_append]; rfl
    rw [e]
    exact set_app
  walk_at "dx"
  simp only [a1, a2, a3, a4, moL_lst, List.length_map, Option.isSome_some, true_and]
  by_cases h0 : 0 < ((X.length : Nat) : Int)
  · rw [if_pos h0]
    refine ⟨((X.length : Nat) : Int), rfl, hs, h0, by omega, fun j j0 j1 => ?_⟩
    obtain ⟨j, rfl⟩ := Int.eq_ofNat_of_zero_le j0
    have jl : j < X.length := by omega
    simp only [a1, a2, a3, a4, moL_lst, List.length_map]
    have gx : X[j]? = some X[j] := List.getElem?_eq_getElem jl
    refine ⟨⟨by omega, by omega⟩, j, .lst (X[j].map D.int), ?_, by rw [List.getElem?_map, gx]; rfl, by show _ < 16777216; omega, (X.eraseIdx j).length, by rw [List.length_eraseIdx_of_lt jl]; omega, X.eraseIdx j, Y ++ [X[j]], rfl, ?_, ?_⟩
    · have := PySem.StrLaws.seqIndex_nonneg (i := ((j : Nat) : Int)) (n := X.length) (by omega) (by omega)
      simpa using this
    · refine List.Perm.trans ?_ hp
      rw [List.append_assoc]
      exact List.Perm.append_left _ (perm_erase X j jl)
    · rw [erase_map, List.map_append]
      rfl
  · rw [if_neg h0]
    subst h1
    walk_at "dx"
    have X0 : X = [] := List.eq_nil_of_length_eq_zero (by omega)
    subst X0
    rw [List.append_nil] at hp
    exact ⟨m.M, [_, _], .lst _, by rw [List.append_assoc]; rfl, kept.rfl, .inr ⟨1, _, rfl, rfl, rfl⟩, clAll_pl _ (plDs_of fun d hd => by obtain ⟨r, _, rfl⟩ := List.mem_map.mp hd; exact plD_ints r), q Y hp⟩
theorem rd__law_times : ∀ ds m Φ Ψ, ds.length = 2 → C__law_times ds m Φ Ψ → W__law_times { nx := fun _ m' => Φ .non m', rt := Φ } (fun _ => Ψ) (ds.map some ++ List.replicate (3 - ds.length) none) m := by
  intro ds m Φ Ψ _ h
  obtain ⟨R, x, rfl, hl, q⟩ := h
  have eR : rwsD R = .lst (R.map fun r => D.lst (r.map D.int)) := rfl
  change W__law_times _ _ [some (rwsD R), some (.lst (x.map D.int)), none] m
  unfold W__law_times
  rw [eR]
  walk_at "dx"
  refine lcW_fil (inj := rwL) (out := rwL) (fun r => r) (fun r => decide (r = x)) m R ?_ ?_ ?_ ?_
  · intro r hr m' Θ Υ hm h1 h2
    unfold rwL
    walk_at "dx"
    refine ⟨okE_ints, okE_ints, ?_⟩
    rw [eqD_ints]
    cases e : decide (r = x) with
    | true =>
      rw [if_pos rfl]
      exact h1 e
    | false =>
      rw [if_neg (by decide)]
      exact h2 e
  · exact fun y => clAll_ints y
  · show _ ≤ 16777216
    omega
  · walk_at "dx"
    rw [show (R.filter fun r => decide (r = x)).length = R.count x by
      rw [List.count, List.countP_eq_length_filter]
      congr 1
      refine List.filter_congr fun y _ => ?_
      rw [Bool.eq_iff_iff, decide_eq_true_iff, beq_iff_eq]]
    exact q
theorem rd_count_of : ∀ ds m Φ Ψ, ds.length = 2 → C_count_of ds m Φ Ψ → W_count_of { nx := fun _ m' => Φ .non m', rt := Φ } (fun _ => Ψ) (ds.map some ++ List.replicate (3 - ds.length) none) m := by
  intro ds m Φ Ψ _ h
  obtain ⟨R, x, rfl, hl, q⟩ := h
  have eR : rwsD R = .lst (R.map fun r => D.lst (r.map D.int)) := rfl
  change W_count_of _ _ [some (rwsD R), some (.lst (x.map D.int)), none] m
  unfold W_count_of
  rw [eR]
  walk_at "dx"
  refine lcW_fil (inj := rwL) (out := rwL) (fun r => r) (fun r => decide (r = x)) m R ?_ ?_ ?_ ?_
  · intro r hr m' Θ Υ hm h1 h2
    unfold rwL
    walk_at "dx"
    refine ⟨okE_ints, okE_ints, ?_⟩
    rw [eqD_ints]
    cases e : decide (r = x) with
    | true =>
      rw [if_pos rfl]
      exact h1 e
    | false =>
      rw [if_neg (by decide)]
      exact h2 e
  · exact fun y => clAll_ints y
  · show _ ≤ 16777216
    omega
  · walk_at "dx"
    rw [show (R.filter fun r => decide (r = x)).length = R.count x by
      rw [List.count, List.countP_eq_length_filter]
      congr 1
      refine List.filter_congr fun y _ => ?_
      rw [Bool.eq_iff_iff, decide_eq_true_iff, beq_iff_eq]]
    exact q
theorem rd_most_same : ∀ ds m Φ Ψ, ds.length = 3 → C_most_same ds m Φ Ψ → W_most_same { nx := fun _ m' => Φ .non m', rt := Φ } (fun _ => Ψ) (ds.map some ++ List.replicate (3 - ds.length) none) m := by
  intro ds m Φ Ψ _ h
  obtain ⟨n, w, p, rfl, p0, p1, hn, hw, q⟩ := h
  change W_most_same _ _ [some (.int (n : Nat)), some (.int (w : Nat)), some (.int p)] m
  unfold W_most_same
  walk_at "dx"
  have e : (if ((w : Nat) : Int) > 1 then ((w : Nat) : Int) else 1) = ((w : Nat) : Int) := by split <;> omega
  rw [e]
  have pn : 0 ≤ p * ((n : Nat) : Int) := Int.mul_nonneg p0 (Int.natCast_nonneg _)
  have pn2 : p * ((n : Nat) : Int) ≤ 1000 * 1000 := Int.mul_le_mul p1 (by omega) (Int.natCast_nonneg _) (by decide)
  exact ⟨mulL p0 (by omega), mulL p0 (by omega), mulL pn (by omega), q⟩
theorem rd_bag_blame : ∀ ds m Φ Ψ, ds.length = 5 → C_bag_blame ds m Φ Ψ → W_bag_blame { nx := fun _ m' => Φ .non m', rt := Φ } (fun _ => Ψ) (ds.map some ++ List.replicate (8 - ds.length) none) m := by
  intro ds m Φ Ψ _ h
  obtain ⟨R, O, s, t, p, rfl, B, q⟩ := h
  obtain ⟨hp, hR, hO, hl, s0, s1, t0, t1⟩ := B
  have Rl := hR.1
  have Ol := hO.1
  change W_bag_blame _ _ [some (rwsD R), some (rwsD O), some (.int s), some (.int t), some (.int p), none, none, none] m
  unfold W_bag_blame
  walk_at "stp"
  refine ⟨R, rfl, by show _ ≤ 16777216; omega, O, rfl, by show _ ≤ 16777216; omega, okE_rws (n := 62), okE_rws (n := 62), ?_⟩
  rw [eqD_rows]
  by_cases e1 : sortR R = sortR O
  · rw [if_pos (decide_eq_true e1)]
    unfold bbD at q
    rw [if_pos (.inl e1)] at q
    exact q
  rw [if_neg (by rw [decide_eq_false e1]; decide)]
  refine ⟨R, O, s, t, p, rfl, hp, hR, hO, s0, s1, t0, t1, ?_⟩
  have sb : sameB R O s t p = decide (bagV s t p R = bagV s t p O) := by
    unfold sameB
    rw [decide_eq_true hl, Bool.true_and]
  rw [sb]
  walk_at "dx"
  by_cases e2 : bagV s t p R = bagV s t p O
  rotate_left
  · rw [if_pos e2]
    unfold bbD at q
    rw [if_pos (.inr e2)] at q
    exact q
  rw [if_neg (fun h => h e2)]
  unfold bbD at q
  rw [if_neg (fun z => z.elim e1 fun z => z e2)] at q
  have eR : rwsD R = .lst (R.map rwL) := rfl
  have eO : rwsD O = .lst (O.map rwL) := rfl
  have mk : ∀ (r : List Int) (m2 : MM) (Φ2 : D → MM → Prop) (Ψ2 : XP), (InP p r ∧ r.length ≤ 10) → Φ2 (.int (markV s p r)) m2 → C_mark [.lst (r.map D.int), .int s, .int p] m2 Φ2 Ψ2 := fun r m2 Φ2 Ψ2 hr h => ⟨r, s, p, rfl, hp, hr.1, hr.2, s0, s1, h⟩
  rw [eR, eO]
  walk_at "nxt"
  refine lcW_fn (inj := rwL) (out := D.int) (fun r : List Int => markV s p r) _ R ?_ (fun _ => rfl) (by show _ ≤ 16777216; omega) ?_
  · intro r hr m2 Θ hΘ
    unfold rwL
    walk_at "dx"
    exact mk r _ _ _ (hR.2 r hr) hΘ
  refine ⟨_, rfl, fun ns' hp1 hs1 => ?_⟩
  have := srtI_of hp1 hs1
  subst this
  clear hp1 hs1
  walk_at "nxt"
  refine lcW_fn (inj := rwL) (out := D.int) (fun r : List Int => markV s p r) _ O ?_ (fun _ => rfl) (by show _ ≤ 16777216; omega) ?_
  · intro r hr m2 Θ hΘ
    unfold rwL
    walk_at "dx"
    exact mk r _ _ _ (hO.2 r hr) hΘ
  refine ⟨_, rfl, fun ns' hp1 hs1 => ?_⟩
  have := srtI_of hp1 hs1
  subst this
  clear hp1 hs1
  refine ⟨okE_ints, okE_ints, ?_⟩
  rw [eqD_ints]
  by_cases e3 : srtI (R.map (markV s p)) = srtI (O.map (markV s p))
  rotate_left
  · rw [if_pos (decide_eq_false e3)]
    rw [if_pos e3] at q
    exact ⟨by decide, q⟩
  rw [if_neg (by rw [decide_eq_true e3]; decide)]
  rw [if_neg (fun z => z e3)] at q
  walk_at "nxt"
  obtain ⟨v5, hv5⟩ : ∃ v5 : Option D, v5 = some (.lst ((srtI (R.map (markV s p))).map D.int)) := ⟨_, rfl⟩
  refine forW_map (inj := rwL) (fun rest ρ m' => ∃ (v6 v7 : Option D), (∀ r ∈ rest, InP p r ∧ r.length ≤ 10) ∧ fndR R O s p rest = fndR R O s p R ∧ ρ = [some (.lst (R.map rwL)), some (.lst (O.map rwL)), some (.int s), some (.int t), some (.int p), v5, v6, v7] ∧ m' = m) ?_ ?_ R _ _ ⟨none, none, hR.2, rfl, by rw [hv5], rfl⟩
  · rintro r rest kk hkk ρ m' ⟨v6, v7, hr, ef, rfl, rfl⟩
    have r0 := hr r List.mem_cons_self
    have nxt : ∀ v7, (fndR R O s p rest = fndR R O s p R) → kk [some (.lst (R.map rwL)), some (.lst (O.map rwL)), some (.int s), some (.int t), some (.int p), v5, some (rwL r), v7] m' := fun v7 e => hkk _ _ ⟨_, _, fun y hy => hr y (List.mem_cons_of_mem _ hy), e, rfl, rfl⟩
    unfold rwL
    walk_at "dx"
    refine ⟨R, r, rfl, by omega, O, r, rfl, by omega, ?_⟩
    walk_at "dx"
    by_cases hc : O.count r < R.count r
    rotate_left
    · rw [if_neg (by omega)]
      refine nxt _ ?_
      rw [← ef]
      show _ = fndR R O s p (r :: rest)
      rw [fndR, if_neg hc]
    rw [if_pos (by omega)]
    have ef2 : (match fndO O s p r with
      | some o => some (r, o)
      | none => fndR R O s p rest) = fndR R O s p R := by
      rw [← ef]
      show _ = fndR R O s p (r :: rest)
      rw [fndR, if_pos hc]
    refine forW_map (inj := rwL) (fun rest2 ρ m2 => ∃ (v7 : Option D), (∀ r ∈ rest2, InP p r ∧ r.length ≤ 10) ∧ fndO rest2 s p r = fndO O s p r ∧ ρ = [some (.lst (R.map rwL)), some (.lst (O.map rwL)), some (.int s), some (.int t), some (.int p), v5, some (rwL r), v7] ∧ m2 = m') ?_ ?_ O _ _ ⟨v7, hO.2, rfl, rfl, rfl⟩
    · rintro o rest2 kk2 hkk2 ρ m' ⟨v7, ho, eo, rfl, rfl⟩
      have o0 := ho o List.mem_cons_self
      have stp : ¬ (o ≠ r ∧ markV s p o = markV s p r) → kk2 [some (.lst (R.map rwL)), some (.lst (O.map rwL)), some (.int s), some (.int t), some (.int p), v5, some (rwL r), some (rwL o)] m' := fun z => hkk2 _ _ ⟨_, fun y hy => ho y (List.mem_cons_of_mem _ hy), by
        rw [← eo]
        unfold fndO
        rw [List.find?_cons_of_neg (by rw [decide_eq_true_iff]; exact z)], rfl, rfl⟩
      unfold rwL at *
      walk_at "dx"
      refine ⟨okE_ints, okE_ints, ?_⟩
      rw [eqD_ints]
      by_cases e4 : o = r
      · rw [if_neg (by simp [e4])]
        exact stp fun z => z.1 e4
      rw [if_pos (by rw [decide_eq_false e4])]
      refine mk o _ _ _ o0 ?_
      refine mk r _ _ _ r0 ?_
      walk_at "dx"
      by_cases e5 : markV s p o = markV s p r
      rotate_left
      · rw [if_neg (by omega)]
        exact stp fun z => e5 z.2
      rw [if_pos (by omega)]
      walk_at "dx"
      have ex : fndO O s p r = some o := by
        rw [← eo]
        unfold fndO
        rw [List.find?_cons_of_pos (by rw [decide_eq_true_iff]; exact ⟨e4, e5⟩)]
      rw [ex] at ef2
      rw [← ef2] at q
      exact ⟨by decide, q⟩
    · rintro ρ m' ⟨v7, ho, eo, rfl, rfl⟩
      have eo : none = fndO O s p r := eo
      rw [← eo] at ef2
      exact nxt _ ef2
  · rintro ρ m' ⟨v6, v7, hr, ef, rfl, rfl⟩
    walk_at "lst"
    have ef : none = fndR R O s p R := ef
    rw [← ef] at q
    exact q
theorem rd__law_due : ∀ ds m Φ Ψ, ds.length = 5 → C__law_due ds m Φ Ψ → W__law_due { nx := fun _ m' => Φ .non m', rt := Φ } (fun _ => Ψ) (ds.map some ++ List.replicate (8 - ds.length) none) m := by
  intro ds m Φ Ψ _ h
  obtain ⟨R, O, s, t, p, rfl, B, q⟩ := h
  obtain ⟨hp, hR, hO, hl, s0, s1, t0, t1⟩ := B
  have Rl := hR.1
  have Ol := hO.1
  change W__law_due _ _ [some (rwsD R), some (rwsD O), some (.int s), some (.int t), some (.int p), none, none, none] m
  unfold W__law_due
  walk_at "stp"
  refine ⟨R, rfl, by show _ ≤ 16777216; omega, O, rfl, by show _ ≤ 16777216; omega, okE_rws (n := 62), okE_rws (n := 62), ?_⟩
  rw [eqD_rows]
  by_cases e1 : sortR R = sortR O
  · rw [if_pos (decide_eq_true e1)]
    unfold bbD at q
    rw [if_pos (.inl e1)] at q
    exact q
  rw [if_neg (by rw [decide_eq_false e1]; decide)]
  refine ⟨R, s, t, p, rfl, hp, hR, s0, s1, t0, t1, ?_⟩
  refine ⟨O, s, t, p, rfl, hp, hO, s0, s1, t0, t1, ?_⟩
  walk_at "dx"
  by_cases e2 : bagV s t p R = bagV s t p O
  rotate_left
  · rw [if_pos e2]
    unfold bbD at q
    rw [if_pos (.inr e2)] at q
    exact q
  rw [if_neg (fun h => h e2)]
  unfold bbD at q
  rw [if_neg (fun z => z.elim e1 fun z => z e2)] at q
  have eR : rwsD R = .lst (R.map rwL) := rfl
  have eO : rwsD O = .lst (O.map rwL) := rfl
  have mk : ∀ (r : List Int) (m2 : MM) (Φ2 : D → MM → Prop) (Ψ2 : XP), (InP p r ∧ r.length ≤ 10) → Φ2 (.int (markV s p r)) m2 → C__law_mark [.lst (r.map D.int), .int s, .int p] m2 Φ2 Ψ2 := fun r m2 Φ2 Ψ2 hr h => ⟨r, s, p, rfl, hp, hr.1, hr.2, s0, s1, h⟩
  rw [eR, eO]
  subst h1
  walk_at "dx"
  refine lcW_fn (inj := rwL) (out := D.int) (fun r : List Int => markV s p r) _ R ?_ (fun _ => rfl) (by show _ ≤ 16777216; omega) ?_
  · intro r hr m2 Θ hΘ
    unfold rwL
    walk_at "dx"
    exact mk r _ _ _ (hR.2 r hr) hΘ
  refine ⟨_, rfl, fun ns' hp1 hs1 => ?_⟩
  have := srtI_of hp1 hs1
  subst this
  clear hp1 hs1
  walk_at "dx"
  refine lcW_fn (inj := rwL) (out := D.int) (fun r : List Int => markV s p r) _ O ?_ (fun _ => rfl) (by show _ ≤ 16777216; omega) ?_
  · intro r hr m2 Θ hΘ
    unfold rwL
    walk_at "dx"
    exact mk r _ _ _ (hO.2 r hr) hΘ
  refine ⟨_, rfl, fun ns' hp1 hs1 => ?_⟩
  have := srtI_of hp1 hs1
  subst this
  clear hp1 hs1
  refine ⟨okE_ints, okE_ints, ?_⟩
  rw [eqD_ints]
  by_cases e3 : srtI (R.map (markV s p)) = srtI (O.map (markV s p))
  rotate_left
  · rw [if_pos (decide_eq_false e3)]
    rw [if_pos e3] at q
    exact ⟨by decide, q⟩
  rw [if_neg (by rw [decide_eq_true e3]; decide)]
  rw [if_neg (fun z => z e3)] at q
  refine forW_map (inj := rwL) (fun rest ρ m' => ∃ (v5 v6 v7 : Option D), (∀ r ∈ rest, InP p r ∧ r.length ≤ 10) ∧ fndR R O s p rest = fndR R O s p R ∧ ρ = [some (.lst (R.map rwL)), some (.lst (O.map rwL)), some (.int s), some (.int t), some (.int p), v5, v6, v7] ∧ m' = m) ?_ ?_ R _ _ ⟨none, none, none, hR.2, rfl, rfl, rfl⟩
  · rintro r rest kk hkk ρ m' ⟨v5, v6, v7, hr, ef, rfl, rfl⟩
    have r0 := hr r List.mem_cons_self
    have nxt : ∀ v6 v7, (fndR R O s p rest = fndR R O s p R) → kk [some (.lst (R.map rwL)), some (.lst (O.map rwL)), some (.int s), some (.int t), some (.int p), some (rwL r), v6, v7] m' := fun v6 v7 e => hkk _ _ ⟨_, _, _, fun y hy => hr y (List.mem_cons_of_mem _ hy), e, rfl, rfl⟩
    unfold rwL
    walk_at "dx"
    refine ⟨R, r, rfl, by omega, O, r, rfl, by omega, ?_⟩
    walk_at "dx"
    by_cases hc : O.count r < R.count r
    rotate_left
    · rw [if_neg (by omega)]
      refine nxt _ _ ?_
      rw [← ef]
      show _ = fndR R O s p (r :: rest)
      rw [fndR, if_neg hc]
    rw [if_pos (by omega)]
    have ef2 : (match fndO O s p r with
      | some o => some (r, o)
      | none => fndR R O s p rest) = fndR R O s p R := by
      rw [← ef]
      show _ = fndR R O s p (r :: rest)
      rw [fndR, if_pos hc]
    walk_at "dx"
    refine lcW_fil (inj := rwL) (out := rwL) (fun r => r) (fun o => decide (o ≠ r ∧ markV s p o = markV s p r)) m' O ?_ ?_ ?_ ?_
    · intro o ho m2 Θ Υ hm y1 y2
      have o0 := hO.2 o ho
      unfold rwL
      walk_at "dx"
      refine ⟨okE_ints, okE_ints, ?_⟩
      rw [eqD_ints]
      by_cases e4 : o = r
      · rw [if_neg (by simp [e4])]
        exact y2 (decide_eq_false fun z => z.1 e4)
      rw [if_pos (by rw [decide_eq_false e4])]
      refine mk o _ _ _ o0 ?_
      refine mk r _ _ _ r0 ?_
      walk_at "dx"
      by_cases e5 : markV s p o = markV s p r
      rotate_left
      · rw [if_neg (by omega)]
        exact y2 (decide_eq_false fun z => e5 z.2)
      rw [if_pos (by omega)]
      exact y1 (decide_eq_true ⟨e4, e5⟩)
    · exact fun y => clAll_ints y
    · show _ ≤ 16777216
      omega
    · have hh : (O.filter fun o => decide (o ≠ r ∧ markV s p o = markV s p r)).head? = fndO O s p r := List.head?_filter ..
      rw [List.map_id']
      cases hf : O.filter fun o => decide (o ≠ r ∧ markV s p o = markV s p r) with
      | nil =>
        rw [hf] at hh
        rw [← hh] at ef2
        exact nxt _ _ ef2
      | cons o os =>
        rw [hf] at hh
        rw [← hh] at ef2
        rw [← ef2] at q
        rw [List.map_cons]
        dsimp only
        rw [if_pos (by rw [List.length_cons]; omega)]
        exact ⟨_, by unfold atI; rw [List.length_cons, show ixN ((os.map rwL).length + 1) 0 = some 0 from by unfold ixN; simp]; rfl, by decide, q⟩
  · rintro ρ m' ⟨v5, v6, v7, hr, ef, rfl, rfl⟩
    have ef : none = fndR R O s p R := ef
    rw [← ef] at q
    exact ⟨by decide, q⟩
theorem bagV_perm {s t p : Int} (hp : 2 ≤ p) {R O : List (List Int)} (h : R.Perm O) : bagV s t p R = bagV s t p O :=
  (((bagV_prodZ R).trans (Cg.of_eq (prodZ_perm (h.map _) t))).trans (bagV_prodZ O).symm).eq (bagV_in hp R) (bagV_in hp O)
def moR (r : List Int) : MO := .lst (r.map D.int)
def hsB (b off n : Nat) : List D := (List.range' off n).map fun i => D.hnd (b + i)
theorem hsB_succ {b off n : Nat} : hsB b off (n + 1) = .hnd (b + off) :: hsB b (off + 1) n := rfl
theorem hsB_snoc {b off n : Nat} : hsB b off (n + 1) = hsB b off n ++ [.hnd (b + (off + n))] := by
  unfold hsB
  rw [List.range'_1_concat, List.map_append]
  rfl
theorem hsB_len {b off n : Nat} : (hsB b off n).length = n := by
  unfold hsB
  rw [List.length_map, List.length_range']
theorem hsB_get {b off n k : Nat} (h : k < n) : (hsB b off n)[k]? = some (.hnd (b + (off + k))) := by
  unfold hsB
  rw [List.getElem?_map, List.getElem?_range' h]
  simp
theorem hsB_mem {b n : Nat} : ∀ {off : Nat} {d : D}, d ∈ hsB b off n → ∃ i, off ≤ i ∧ d = .hnd (b + i) := fun {off d} h => by
  obtain ⟨i, hi, rfl⟩ := List.mem_map.mp h
  exact ⟨i, (List.mem_range'_1.mp hi).1, rfl⟩
def Itms (b : Nat) (X : List MO) : List D → List (List Int) → Prop
  | [], [] => True
  | d :: ds, r :: rs => (d = rwL r ∨ ∃ k, d = .hnd (b + k) ∧ X[k]? = some (moR r) ∧ ∀ d' ∈ ds, d' ≠ .hnd (b + k)) ∧ Itms b X ds rs
  | _, _ => False
theorem Itms_put {b : Nat} {X : List MO} {c : Nat} {y : MO} : ∀ (ds : List D) (rs : List (List Int)), (∀ d ∈ ds, d ≠ .hnd (b + c)) → Itms b X ds rs → Itms b (X.set c y) ds rs
  | [], [], _, _ => trivial
  | [], _ :: _, _, h => h.elim
  | _ :: _, [], _, h => h.elim
  | d :: ds, r :: rs, hd, h => by
    refine ⟨?_, Itms_put ds rs (fun d' hd' => hd d' (List.mem_cons_of_mem _ hd')) h.2⟩
    rcases h.1 with e | ⟨k, e, hx, hn⟩
    · exact .inl e
    · refine .inr ⟨k, e, ?_, hn⟩
      have : c ≠ k := fun z => hd d List.mem_cons_self (by rw [e, z])
      rw [List.getElem?_set_ne this]
      exact hx
theorem Itms_init {b : Nat} {X : List MO} : ∀ (T : List (List Int)) (off : Nat), (∀ i < T.length, X[off + i]? = (T[i]?).map moR) → Itms b X (hsB b off T.length) T
  | [], _, _ => trivial
  | r :: T, off, h => by
    rw [List.length_cons, hsB_succ]
    refine ⟨.inr ⟨off, rfl, h 0 (Nat.succ_pos _), fun d' hd' z => ?_⟩, Itms_init T (off + 1) fun i hi => ?_⟩
    · obtain ⟨i, hi, rfl⟩ := hsB_mem hd'
      have : b + i = b + off := by injection z
      omega
    · have := h (i + 1) (by rw [List.length_cons]; omega)
      rw [List.getElem?_cons_succ] at this
      rw [← this]
      congr 1
      omega
theorem Itms_item {b : Nat} {X : List MO} {r : List Int} : ∀ (ds : List D) (rs : List (List Int)) (k : Nat), Itms b X ds rs → Itms b X (ds.set k (rwL r)) (rs.set k r)
  | [], [], _, _ => trivial
  | [], _ :: _, _, h => h.elim
  | _ :: _, [], _, h => h.elim
  | d :: ds, r' :: rs, 0, h => ⟨.inl rfl, h.2⟩
  | d :: ds, r' :: rs, k + 1, h => by
    refine ⟨?_, Itms_item ds rs k h.2⟩
    rcases h.1 with e | ⟨j, e, hx, hn⟩
    · exact .inl e
    · refine .inr ⟨j, e, hx, fun d' hd' => ?_⟩
      rcases List.mem_or_eq_of_mem_set hd' with z | z
      · exact hn d' z
      · rw [z]
        exact fun z => by cases z
theorem Itms_plain {b : Nat} {X : List MO} : ∀ rs : List (List Int), Itms b X (rs.map rwL) rs
  | [] => trivial
  | _ :: rs => ⟨.inl rfl, Itms_plain rs⟩
theorem Itms_frz {b : Nat} {B : List MO} {s : Nat} (hb : B.length = b) : ∀ (ds : List D) (rs : List (List Int)) (X : List MO), Itms b X ds rs → ∃ X', frzAny ds ⟨B ++ X, s⟩ = some (rs.map rwL, ⟨B ++ X', s⟩)
  | [], [], X, _ => ⟨X, rfl⟩
  | [], _ :: _, _, h => h.elim
  | _ :: _, [], _, h => h.elim
  | d :: ds, r :: rs, X, h => by
    rcases h.1 with rfl | ⟨k, rfl, hx, hn⟩
    · obtain ⟨X', e⟩ := Itms_frz hb ds rs X h.2
      refine ⟨X', ?_⟩
      unfold rwL
      rw [frzAny, e]
      · rfl
      · exact fun z w => by cases w
    · obtain ⟨X', e⟩ := Itms_frz hb ds rs (X.set k .dead) (Itms_put ds rs hn h.2)
      refine ⟨X', ?_⟩
      have g : (B ++ X)[b + k]? = some (moR r) := by rw [List.getElem?_append_right (by omega), show b + k - B.length = k by omega]; exact hx
      have g2 : (B ++ X).set (b + k) .dead = B ++ X.set k .dead := by rw [List.set_append_right _ _ (by omega), show b + k - B.length = k by omega]
      rw [frzAny]
      dsimp only
      rw [g]
      show (match frzAny ds ⟨(B ++ X).set (b + k) .dead, s⟩ with
          | some (r', m') => some (D.lst (r.map D.int) :: r', m')
          | none => none) = _
      rw [g2, e]
      rfl
theorem lcH_copy {B : List MO} {s : Nat} {a0 a1 a2 a3 a4 a5 a6 a7 a8 : Option D} {Φ : D → MM → Prop} : ∀ (rest done : List (List Int)), done.length + rest.length ≤ 1000 →
    Φ (.hnd B.length) ⟨B ++ .lst (hsB B.length 1 (done ++ rest).length) :: (done ++ rest).map moR, s⟩ →
    lcWH B.length (dgName 7) dYes (dCB cListM (dCons (dVar 7) dNil)) [a0, a1, a2, a3, a4, a5, a6, a7, a8] Φ (rest.map rwL) ⟨B ++ .lst (hsB B.length 1 done.length) :: done.map moR, s⟩
  | [], done, _, h => by
    rw [List.append_nil] at h
    exact h
  | r :: rest, done, hl, h => by
    rw [List.length_cons] at hl
    have ih := lcH_copy (B := B) (s := s) (a0 := a0) (a1 := a1) (a2 := a2) (a3 := a3) (a4 := a4) (a5 := a5) (a6 := a6) (a7 := a7) (a8 := a8) (Φ := Φ) rest (done ++ [r]) (by rw [List.length_append]; show done.length + 1 + rest.length ≤ 1000; omega) (by rw [List.append_assoc]; exact h)
    rw [List.map_cons]
    unfold lcWH rwL
    walk_at "dx"
    refine ⟨hsB B.length 1 done.length, ?_, by rw [hsB_len]; show _ < 16777216; omega, ?_⟩
    · rw [List.append_assoc, List.cons_append, List.getElem?_append_right (Nat.le_refl _), Nat.sub_self]
      rfl
    · rw [List.append_assoc, List.cons_append, List.set_append_right _ _ (Nat.le_refl _), Nat.sub_self, List.set_cons_zero, List.length_append, List.length_cons, List.length_map, Nat.add_comm done.length 1]
      rw [List.length_append, List.length_singleton, hsB_snoc, List.map_append] at ih
      exact ih
theorem rd__law_other : ∀ ds m Φ Ψ, ds.length = 4 → C__law_other ds m Φ Ψ → W__law_other { nx := fun _ m' => retQ m Φ .non m', rt := retQ m Φ } (fun _ => retX m Ψ) (ds.map some ++ List.replicate (9 - ds.length) none) m := by
  intro ds m Φ Ψ _ h
  obtain ⟨R, w, p, rfl, hs, hp, R0, Rl, w1, w3, hR, q⟩ := h
  have hp1 := hp.1
  have hp2 := hp.2
  obtain ⟨B, s⟩ := m
  dsimp only at hs
  subst hs
  change W__law_other _ _ [some (.st 0), some (rwsD R), some (.int (w : Nat)), some (.int p), none, none, none, none, none] _
  unfold W__law_other
  walk_at "stp"
  refine ⟨_, rfl, rfl, by decide, by decide, fun kind kd0 kd1 => ?_⟩
  walk_at "nxt"
  unfold dLcH
  walk_at "dx"
  refine ⟨R, rfl, rfl, by omega, fun T hT => ?_⟩
  have Tl := hT.length_eq
  have hT2 : ∀ r ∈ T, InP p r ∧ r.length = w := fun r hr => hR r (hT.mem_iff.mp hr)
  have eT : rwsD T = .lst (T.map rwL) := rfl
  rw [eT]
  walk_at "dx"
  refine lcH_copy (B := B) T [] (by rw [List.length_nil]; omega) ?_
  rw [List.nil_append]
  have gB : (B ++ .lst (hsB B.length 1 T.length) :: T.map moR)[B.length]? = some (.lst (hsB B.length 1 T.length)) := by
    rw [List.getElem?_append_right (Nat.le_refl _), Nat.sub_self]
    rfl
  walk_at "nxt"
  simp only [gB, moL_lst, hsB_len]
  refine ⟨_, rfl, rfl, by omega, by omega, fun k k0 k1' => ?_⟩
  obtain ⟨k, rfl⟩ := Int.eq_ofNat_of_zero_le k0
  have kl : k < T.length := by omega
  walk_at "nxt"
  simp only [gB, moL_lst]
  have gk : atI (hsB B.length 1 T.length) ((k : Nat) : Int) = some (.hnd (B.length + (1 + k))) := by
    unfold atI
    rw [hsB_len, ixN_of (by omega) (by omega)]
    exact hsB_get kl
  refine ⟨_, gk, ?_⟩
  subst h1
  refine dSeq_k fun k1 h1 => ?_
  have fin : ∀ (X : List MO) (c : Nat) (items : List D) (O : List (List Int)) (v6 v7 v8 : Option D), X[c]? = some (.lst items) → Itms B.length (X.set c .dead) items O → O.length = R.length → (∀ r ∈ O, InP p r ∧ r.length = w) → k1 [some (.st 0), some (rwsD R), some (.int (w : Nat)), some (.int p), some (.int kind), some (.hnd (B.length + c)), v6, v7, v8] ⟨B ++ X, 1⟩ := by
    intro X c items O v6 v7 v8 hx hi ol ho
    subst h1
    have g : (B ++ X)[B.length + c]? = some (.lst items) := by rw [List.getElem?_append_right (by omega), show B.length + c - B.length = c by omega]; exact hx
    have g2 : (B ++ X).set (B.length + c) .dead = B ++ X.set c .dead := by rw [List.set_append_right _ _ (by omega), show B.length + c - B.length = c by omega]
    obtain ⟨X', e⟩ := Itms_frz (s := 1) rfl items O _ hi
    unfold dFrz
    dsimp only [List.getElem?_cons_succ, List.getElem?_cons_zero]
    simp only [g, g2, moL_lst]
    refine ⟨items, O.map rwL, ⟨B ++ X', 1⟩, rfl, e, ?_⟩
    exact ⟨B, X', .lst (O.map rwL), rfl, kept.rfl, .inl rfl, clAll_pl _ (plDs_of fun d hd => by obtain ⟨r, _, rfl⟩ := List.mem_map.mp hd; exact plD_ints r), q O ol ho⟩
  have initG : ∀ T' : List (List Int), Itms B.length (MO.dead :: T'.map moR) (hsB B.length 1 T'.length) T' := fun T' => Itms_init T' 1 fun i hi => by
    rw [Nat.add_comm 1 i, List.getElem?_cons_succ, List.getElem?_map]
  have gT : ∀ (i : Nat) (hi : i < T.length), (B ++ .lst (hsB B.length 1 T.length) :: T.map moR)[B.length + (1 + i)]? = some (.lst (T[i].map D.int)) := fun i hi => by
    rw [List.getElem?_append_right (by omega), show B.length + (1 + i) - B.length = i + 1 by omega, List.getElem?_cons_succ, List.getElem?_map, List.getElem?_eq_getElem hi]
    rfl
  have setT : ∀ r : List Int, InP p r → r.length = w → (T.set k r).length = R.length ∧ ∀ x ∈ T.set k r, InP p x ∧ x.length = w := fun r hr hl => ⟨by rw [List.length_set]; exact Tl, fun x hx => by
    rcases List.mem_or_eq_of_mem_set hx with z | z
    · exact hT2 x z
    · rw [z]
      exact ⟨hr, hl⟩⟩
  have put : ∀ r : List Int, InP p r → r.length = w → ∀ v6 v7 v8, k1 [some (.st 0), some (rwsD R), some (.int (w : Nat)), some (.int p), some (.int kind), some (.hnd B.length), v6, v7, v8] ⟨(B ++ .lst (hsB B.length 1 T.length) :: T.map moR).set B.length (.lst ((hsB B.length 1 T.length).set k (rwL r))), 1⟩ := fun r hr hl v6 v7 v8 => by
    rw [List.set_append_right _ _ (Nat.le_refl _), Nat.sub_self, List.set_cons_zero]
    exact fin _ 0 _ (T.set k r) _ _ _ rfl (Itms_item _ _ k (initG T)) (setT r hr hl).1 (setT r hr hl).2
  walk_at "dx"
  by_cases c0 : kind = 0
  · rw [if_pos c0]
    refine ⟨_, rfl, rfl, by omega, by omega, fun v v0 v1 => ?_⟩
    refine ⟨_, rfl, rfl, by omega, by omega, fun j j0 j1 => ?_⟩
    obtain ⟨j, rfl⟩ := Int.eq_ofNat_of_zero_le j0
    dsimp only
    simp only [gT k kl, moL_lst]
    have Tk := hT2 T[k] (List.getElem_mem kl)
    refine ⟨j, by rw [List.length_map]; exact ixN_of (by omega) (by omega), ?_⟩
    have gs : (B ++ .lst (hsB B.length 1 T.length) :: T.map moR).set (B.length + (1 + k)) (.lst ((T[k].map D.int).set j (.int v))) = B ++ .lst (hsB B.length 1 (T.set k (T[k].set j v)).length) :: (T.set k (T[k].set j v)).map moR := by
      rw [List.set_append_right _ _ (by omega), show B.length + (1 + k) - B.length = k + 1 by omega, List.set_cons_succ, List.length_set, List.map_set]
      unfold moR
      rw [List.map_set]
    rw [gs]
    have z := setT (T[k].set j v) (fun x hx => by
      rcases List.mem_or_eq_of_mem_set hx with z | z
      · exact Tk.1 x z
      · rw [z]
        exact ⟨v0, v1⟩) (by rw [List.length_set]; exact Tk.2)
    exact fin _ 0 _ (T.set k (T[k].set j v)) _ _ _ rfl (initG _) z.1 z.2
  rw [if_neg c0]
  by_cases c1 : kind = 1
  · rw [if_pos c1]
    refine ⟨⟨by omega, by omega⟩, ?_⟩
    rw [Int.toNat_natCast, rngD0]
    refine lcW_any (out := D.int) (fun _ (z : Int) => 0 ≤ z ∧ z < p) _ (fun x m2 Θ2 em2 h2 => ?_) (fun _ => rfl) _ [] (by rw [List.length_nil, List.length_range]; show _ ≤ 16777216; omega) (fun zs hzs => ?_)
    · refine ⟨rfl, ?_⟩
      walk_at "dx"
      exact ⟨p, rfl, em2, by omega, by omega, fun r r0 r1 => h2 r ⟨r0, r1⟩⟩
    · have zi : InP p zs := fun x hx => all2_mem hzs x hx
      have zl : zs.length = w := by rw [← hzs.length, List.length_range]
      simp only [gB, moL_lst, hsB_len]
      exact ⟨k, ixN_of (by omega) (by omega), put zs zi zl _ _ _⟩
  rw [if_neg c1]
  by_cases c2 : kind = 2
  · rw [if_pos c2]
    simp only [gB, moL_lst, hsB_len]
    refine ⟨_, rfl, rfl, by omega, by omega, fun j j0 j1 => ?_⟩
    obtain ⟨j, rfl⟩ := Int.eq_ofNat_of_zero_le j0
    have jl : j < T.length := by omega
    have gj : atI (hsB B.length 1 T.length) ((j : Nat) : Int) = some (.hnd (B.length + (1 + j))) := by
      unfold atI
      rw [hsB_len, ixN_of (by omega) (by omega)]
      exact hsB_get jl
    have Tj := hT2 T[j] (List.getElem_mem jl)
    dsimp only
    simp only [gB, moL_lst, hsB_len]
    refine ⟨_, gj, ?_⟩
    dsimp only
    simp only [gB, gT j jl, moL_lst, hsB_len]
    exact ⟨k, ixN_of (by omega) (by omega), put T[j] Tj.1 Tj.2 _ _ _⟩
  rw [if_neg c2]
  have eR : rwsD R = .lst (R.map rwL) := rfl
  have fin2 : ∀ (O : List (List Int)), O.length = R.length → (∀ r ∈ O, InP p r ∧ r.length = w) → ∀ v6 v7 v8, k1 [some (.st 0), some (rwsD R), some (.int (w : Nat)), some (.int p), some (.int kind), some (.hnd (B ++ .lst (hsB B.length 1 T.length) :: T.map moR).length), v6, v7, v8] ⟨(B ++ .lst (hsB B.length 1 T.length) :: T.map moR) ++ [.lst (O.map rwL)], 1⟩ := fun O ol ho v6 v7 v8 => by
    rw [List.length_append, List.append_assoc]
    exact fin _ _ _ O _ _ _ (by rw [List.getElem?_append_right (Nat.le_refl _), Nat.sub_self]; rfl) (Itms_plain O) ol ho
  rw [eR] at fin2 ⊢
  dsimp only
  refine lcWM_any (out := rwL) (fun _ (r : List Int) => InP p r ∧ r.length = w) _ (fun x m' Θ em h => ?_) _ [] (by rw [List.length_nil]; show _ ≤ 16777216; omega) (fun O hO => ?_)
  · unfold rwL
    refine ⟨rfl, ?_⟩
    walk_at "dx"
    refine ⟨⟨by omega, by omega⟩, ?_⟩
    rw [Int.toNat_natCast, rngD0]
    refine lcW_any (out := D.int) (fun _ (z : Int) => 0 ≤ z ∧ z < p) _ (fun x m2 Θ2 em2 h2 => ?_) (fun _ => rfl) _ [] (by rw [List.length_nil, List.length_range]; show _ ≤ 16777216; omega) (fun zs hzs => ?_)
    · refine ⟨rfl, ?_⟩
      walk_at "dx"
      exact ⟨p, rfl, by rw [em2, em], by omega, by omega, fun r r0 r1 => h2 r ⟨r0, r1⟩⟩
    · exact h zs ⟨fun x hx => all2_mem hzs x hx, by rw [← hzs.length, List.length_range]⟩
  · exact fin2 O hO.length.symm (fun r hr => all2_mem hO r hr) _ _ _
theorem prim_77 (p : Int) (h : p = 2 ∨ p = 3 ∨ p = 5 ∨ p = 7 ∨ p = 11 ∨ p = 13) : Prim p := by
  rcases h with rfl | rfl | rfl | rfl | rfl | rfl
  · exact prim_chk (p := 2) (k := 1) (by decide +kernel)
  · exact prim_chk (p := 3) (k := 1) (by decide +kernel)
  · exact prim_chk (p := 5) (k := 2) (by decide +kernel)
  · exact prim_chk (p := 7) (k := 2) (by decide +kernel)
  · exact prim_chk (p := 11) (k := 3) (by decide +kernel)
  · exact prim_chk (p := 13) (k := 3) (by decide +kernel)
theorem fndR_none {R O : List (List Int)} {s p : Int} : ∀ L : List (List Int), fndR R O s p L = none → ∀ r ∈ L, O.count r < R.count r → fndO O s p r = none
  | [], _, r, h, _ => by cases h
  | x :: L, h, r, hr, hc => by
    rw [fndR] at h
    by_cases e : O.count x < R.count x
    · rw [if_pos e] at h
      cases ef : fndO O s p x with
      | some o => rw [ef] at h; cases h
      | none =>
        rw [ef] at h
        rcases List.mem_cons.mp hr with rfl | hr
        · exact ef
        · exact fndR_none L h r hr hc
    · rw [if_neg e] at h
      rcases List.mem_cons.mp hr with rfl | hr
      · exact absurd hc e
      · exact fndR_none L h r hr hc
theorem fndR_some {R O : List (List Int)} {s p : Int} (hl : R.length = O.length) (e1 : sortR R ≠ sortR O) (e3 : srtI (R.map (markV s p)) = srtI (O.map (markV s p))) : ∃ z, fndR R O s p R = some z := by
  cases h : fndR R O s p R with
  | some z => exact ⟨z, rfl⟩
  | none =>
    exfalso
    obtain ⟨r, hr, hc⟩ := more_of hl (fun z => e1 (sortR_iff.mpr z))
    obtain ⟨o, ho, h1, h2⟩ := pigeon (p := p) (srtI_iff.mp e3) hc
    have := fndR_none R h r hr hc
    unfold fndO at this
    rw [List.find?_eq_none] at this
    exact this o ho (decide_eq_true ⟨h1, h2⟩)
theorem bb_facts {R O : List (List Int)} {s t p : Int} (hl : R.length = O.length) : bbD R O s t p noneD = bbD R O s t p .non ∧ (okE 3 (bbD R O s t p .non) = true) ∧ eqD (bbD R O s t p .non) noneD = false ∧ ((isNon (bbD R O s t p .non) = some true ∧ (sortR R = sortR O ∨ bagV s t p R ≠ bagV s t p O)) ∨ (isNon (bbD R O s t p .non) = some false ∧ ¬ (sortR R = sortR O ∨ bagV s t p R ≠ bagV s t p O))) := by
  unfold bbD
  by_cases e : sortR R = sortR O ∨ bagV s t p R ≠ bagV s t p O
  · rw [if_pos e, if_pos e]
    exact ⟨rfl, rfl, by decide +kernel, .inl ⟨rfl, e⟩⟩
  rw [if_neg e, if_neg e]
  by_cases e3 : srtI (R.map (markV s p)) = srtI (O.map (markV s p))
  · rw [if_neg (fun z => z e3), if_neg (fun z => z e3)]
    obtain ⟨z, hz⟩ := fndR_some (p := p) hl (fun z => e (.inl z)) e3
    rw [hz]
    exact ⟨rfl, okE_tup (fun d hd => by
      rcases List.mem_cons.mp hd with rfl | hd
      · decide +kernel
      rcases List.mem_cons.mp hd with rfl | hd
      · exact okE_ints
      rcases List.mem_cons.mp hd with rfl | hd
      · exact okE_ints
      cases hd), rfl, .inr ⟨rfl, e⟩⟩
  · rw [if_pos e3, if_pos e3]
    exact ⟨rfl, okE_tup (fun d hd => by
      rcases List.mem_cons.mp hd with rfl | hd
      · decide +kernel
      rcases List.mem_cons.mp hd with rfl | hd
      · rfl
      cases hd), rfl, .inr ⟨rfl, e⟩⟩
def PSn (R O : List (List Int)) (n i : Nat) : Nat := ((List.range i).map fun s : Nat => (List.range n).countP fun t : Nat => decide (bagV s t (n : Nat) R = bagV s t (n : Nat) O)).sum
def cntA (R O : List (List Int)) (n i j : Nat) : Nat := if sortR R = sortR O then 0 else PSn R O n i + (List.range j).countP fun t : Nat => decide (bagV (i : Nat) t (n : Nat) R = bagV (i : Nat) t (n : Nat) O)
theorem cntA_00 {R O : List (List Int)} {n : Nat} : cntA R O n 0 0 = 0 := by
  unfold cntA PSn
  split <;> rfl
theorem cntA_s {R O : List (List Int)} {n i : Nat} : cntA R O n i n = cntA R O n (i + 1) 0 := by
  unfold cntA PSn
  split
  · rfl
  · rw [List.range_succ, List.map_append, List.sum_append]
    simp
theorem cntA_t {R O : List (List Int)} {n i j : Nat} (e : sortR R ≠ sortR O) : cntA R O n i (j + 1) = cntA R O n i j + (if bagV (i : Nat) (j : Nat) (n : Nat) R = bagV (i : Nat) (j : Nat) (n : Nat) O then 1 else 0) := by
  unfold cntA
  rw [if_neg e, if_neg e, List.range_succ, List.countP_append, List.countP_cons, List.countP_nil]
  by_cases z : bagV (i : Nat) (j : Nat) (n : Nat) R = bagV (i : Nat) (j : Nat) (n : Nat) O
  · rw [if_pos (decide_eq_true z), if_pos z]
    omega
  · rw [if_neg (by rw [decide_eq_false z]; decide), if_neg z]
    omega
theorem cntA_same {R O : List (List Int)} {n i j : Nat} (e : sortR R = sortR O) : cntA R O n i j = 0 := by
  unfold cntA
  rw [if_pos e]
theorem cntA_le {R O : List (List Int)} {n w : Nat} (P : Prim (n : Int)) (h2 : 2 ≤ (n : Int)) (w1 : 1 ≤ w) (hl : R.length = O.length) (hR : ∀ r ∈ R, InP (n : Int) r ∧ r.length = w) (hO : ∀ r ∈ O, InP (n : Int) r ∧ r.length = w) : cntA R O n n 0 ≤ n * R.length * w ∧ cntA R O n n 0 ≤ n * n := by
  by_cases e : sortR R = sortR O
  · rw [cntA_same e]
    exact ⟨Nat.zero_le _, Nat.zero_le _⟩
  · unfold cntA
    rw [if_neg e]
    exact few_pairs P h2 rfl w1 hl (fun z => e (sortR_iff.mpr z)) hR hO
theorem rd_law : ∀ ds m Φ Ψ, ds.length = 1 → CLaw ClawT ds m Φ Ψ → W_law { nx := fun _ m' => Φ .non m', rt := Φ } (fun _ => Ψ) (ds.map some ++ List.replicate (12 - ds.length) none) m := by
  intro ds m Φ Ψ _ h
  obtain ⟨ns, rfl, hns, rfl, q⟩ := h
  change W_law _ _ [some (D.rol (ns.map D.int)), none, none, none, none, none, none, none, none, none, none, none] _
  unfold W_law
  walk_at "stp"
  refine ⟨⟨ns, rfl, by omega⟩, rfl, ?_⟩
  walk_at "nxt"
  refine ⟨by decide, _, rfl, rfl, by decide, by decide, fun dp hdp => ?_⟩
  obtain ⟨n, hp, P, hn, rfl⟩ : ∃ n : Nat, PM (n : Int) ∧ Prim (n : Int) ∧ n ≤ 13 ∧ dp = .int (n : Nat) := by
    simp only [List.mem_cons, List.not_mem_nil, or_false] at hdp
    rcases hdp with rfl | rfl | rfl | rfl | rfl | rfl
    · exact ⟨2, ⟨by decide, by decide⟩, prim_77 _ (by decide), by decide, rfl⟩
    · exact ⟨3, ⟨by decide, by decide⟩, prim_77 _ (by decide), by decide, rfl⟩
    · exact ⟨5, ⟨by decide, by decide⟩, prim_77 _ (by decide), by decide, rfl⟩
    · exact ⟨7, ⟨by decide, by decide⟩, prim_77 _ (by decide), by decide, rfl⟩
    · exact ⟨11, ⟨by decide, by decide⟩, prim_77 _ (by decide), by decide, rfl⟩
    · exact ⟨13, ⟨by decide, by decide⟩, prim_77 _ (by decide), by decide, rfl⟩
  clear hdp
  have hp1 := hp.1
  have hp2 := hp.2
  walk_at "nxt"
  refine ⟨_, rfl, rfl, by decide, by decide, fun w0 w00 w01 => ?_⟩
  obtain ⟨w0, rfl⟩ := Int.eq_ofNat_of_zero_le w00
  obtain ⟨w, hw⟩ : ∃ w, w = w0 + 1 := ⟨_, rfl⟩
  dsimp only
  rw [show (1 : Int) + (w0 : Nat) = ((w : Nat) : Int) by omega]
  walk_at "nxt"
  refine ⟨_, rfl, rfl, by decide, by decide, fun k k0 k1 => ?_⟩
  obtain ⟨k, rfl⟩ := Int.eq_ofNat_of_zero_le k0
  refine ⟨k + 1, w, n, by rw [show (1 : Int) + (k : Nat) = ((k + 1 : Nat) : Int) by omega], rfl, hp, by omega, by omega, by omega, fun R Rl hR => ?_⟩
  walk_at "nxt"
  refine ⟨R, w, n, rfl, rfl, hp, by omega, by omega, by omega, by omega, hR, fun O Ol hO => ?_⟩
  have hl : R.length = O.length := Ol.symm
  have RP : RwP (n : Int) R := ⟨by omega, fun r hr => ⟨(hR r hr).1, by have := (hR r hr).2; omega⟩⟩
  have OP : RwP (n : Int) O := ⟨by omega, fun r hr => ⟨(hO r hr).1, by have := (hO r hr).2; omega⟩⟩
  walk_at "nxt"
  walk_at "nxt"
  refine ⟨by omega, ?_⟩
  rw [show ((n : Nat) : Int).toNat = n from rfl]
  refine forW_rng (lo := 0) (fun i ρ m' => ∃ (v7 v9 v10 v11 : Option D), ρ = [some (D.rol (ns.map D.int)), some (D.st 0), some (D.int n), some (D.int w), some (rwsD R), some (rwsD O), some (.int (cntA R O n i 0 : Nat)), v7, none, v9, v10, v11] ∧ m' = ⟨[], 1⟩) ?_ ?_ ⟨_, _, _, _, by rw [cntA_00]; rfl, rfl⟩
  · rintro i kk hi hkk ρ m' ⟨v7, v9, v10, v11, rfl, rfl⟩
    rw [Int.zero_add]
    clear h1
    walk_at "dx"
    refine ⟨by omega, ?_⟩
    rw [show ((n : Nat) : Int).toNat = n from rfl]
    refine forW_rng (lo := 0) (fun j ρ m' => ∃ (v9 v10 v11 : Option D), ρ = [some (D.rol (ns.map D.int)), some (D.st 0), some (D.int n), some (D.int w), some (rwsD R), some (rwsD O), some (.int (cntA R O n i j : Nat)), some (.int (i : Nat)), none, v9, v10, v11] ∧ m' = ⟨[], 1⟩) ?_ ?_ ⟨_, _, _, rfl, rfl⟩
    · rintro j kk2 hj hkk2 ρ m' ⟨v9, v10, v11, rfl, rfl⟩
      rw [Int.zero_add]
      have BP : BagP R O (i : Nat) (j : Nat) (n : Nat) := ⟨hp, RP, OP, hl, by omega, by omega, by omega, by omega⟩
      obtain ⟨F1, F2, F3, F4⟩ := bb_facts (s := (i : Nat)) (t := (j : Nat)) (p := (n : Nat)) hl
      have sb : sameB R O (i : Nat) (j : Nat) (n : Nat) = decide (bagV (i : Nat) (j : Nat) (n : Nat) R = bagV (i : Nat) (j : Nat) (n : Nat) O) := by
        unfold sameB
        rw [decide_eq_true hl, Bool.true_and]
      walk_at "stp"
      refine ⟨R, O, (i : Nat), (j : Nat), (n : Nat), rfl, hp, RP, OP, by omega, by omega, by omega, by omega, ?_⟩
      rw [sb]
      walk_at "nxt"
      refine ⟨R, O, (i : Nat), (j : Nat), (n : Nat), rfl, BP, ?_⟩
      rw [F1]
      obtain ⟨B, hB⟩ : ∃ B, B = bbD R O (i : Nat) (j : Nat) (n : Nat) .non := ⟨_, rfl⟩
      rw [← hB] at F1 F2 F3 F4 ⊢
      walk_at "nxt"
      refine ⟨R, O, (i : Nat), (j : Nat), (n : Nat), rfl, BP, ?_⟩
      rw [← hB]
      have okB : okE 64 B = true := okE_mono _ F2 (by decide)
      refine ⟨okB, okB, ?_⟩
      rw [eqD_self okB, if_neg (by decide)]
      refine ⟨by decide, okB, okE_tup (fun d hd => by
        rcases List.mem_cons.mp hd with rfl | hd
        · decide +kernel
        cases hd), ?_⟩
      rw [if_neg (by rw [show eqD B (.tup [.str (PySem.Str.ofString "none")]) = false from F3]; decide)]
      subst h1
      walk_at "dx"
      refine ⟨R, rfl, by show _ ≤ 16777216; omega, O, rfl, by show _ ≤ 16777216; omega, okE_rws (n := 62), okE_rws (n := 62), ?_⟩
      rw [eqD_rows]
      have go := hkk2 _ _ ⟨some (.int (j : Nat)), some (.bl (decide (bagV (i : Nat) (j : Nat) (n : Nat) R = bagV (i : Nat) (j : Nat) (n : Nat) O))), some B, rfl, rfl⟩
      by_cases e1 : sortR R = sortR O
      · rw [if_pos (decide_eq_true e1)]
        have e2 : bagV (i : Nat) (j : Nat) (n : Nat) R = bagV (i : Nat) (j : Nat) (n : Nat) O := bagV_perm hp1 (sortR_iff.mp e1)
        rw [cntA_same e1] at go ⊢
        rw [decide_eq_true e2] at go ⊢
        rw [if_neg (fun z => z e2)]
        exact go
      rw [if_neg (by rw [decide_eq_false e1]; decide)]
      rw [cntA_t e1] at go
      by_cases e2 : bagV (i : Nat) (j : Nat) (n : Nat) R = bagV (i : Nat) (j : Nat) (n : Nat) O
      · rw [decide_eq_true e2] at go ⊢
        rw [if_pos e2] at go
        obtain ⟨F5, _⟩ | ⟨F5, _⟩ := F4
        · rename_i z
          exact absurd e2 (z.resolve_left e1)
        walk_at "dx"
        clear F1 F2 F3 hB okB
        cases B <;> first
          | (cases F5; done)
          | (rw [if_pos e2]; exact go)
      · rw [decide_eq_false e2] at go ⊢
        rw [if_neg e2] at go
        obtain ⟨F5, _⟩ | ⟨F5, z⟩ := F4
        rotate_left
        · exact absurd (.inr e2) z
        walk_at "dx"
        clear F1 F2 F3 hB okB
        cases B <;> first
          | (cases F5; done)
          | (rw [if_neg e2]; exact go)
    · rintro ρ m' ⟨v9, v10, v11, rfl, rfl⟩
      rw [cntA_s]
      exact hkk _ _ ⟨_, _, _, _, rfl, rfl⟩
  · rintro ρ m' ⟨v7, v9, v10, v11, rfl, rfl⟩
    have C := cntA_le P hp1 (w := w) (by omega) hl hR hO
    obtain ⟨c, hc⟩ : ∃ c, c = cntA R O n n 0 := ⟨_, rfl⟩
    rw [← hc] at C ⊢
    clear hc
    subst h1
    have eR : rwsD R = .lst (R.map rwL) := rfl
    rw [eR]
    walk_at "dx"
    refine ⟨R.length, w, n, rfl, by omega, by omega, by omega, by omega, ?_⟩
    walk_at "dx"
    have c1 := Int.ofNat_le.mpr C.1
    have c2 := Int.ofNat_le.mpr C.2
    rw [Int.natCast_mul, Int.natCast_mul] at c1
    rw [Int.natCast_mul] at c2
    have pn : 0 ≤ (n : Int) * (R.length : Nat) := Int.mul_nonneg (by omega) (Int.natCast_nonneg _)
    have pn2 : (n : Int) * (R.length : Nat) ≤ 13 * 40 := Int.mul_le_mul (by omega) (by omega) (Int.natCast_nonneg _) (by decide)
    refine ⟨mulL (by omega) (by omega), mulL (by omega) (by omega), mulL pn (by omega), ?_⟩
    have em : mostI (R.length : Nat) (w : Nat) (n : Nat) = if (n : Int) * (R.length : Nat) * (w : Nat) < (n : Int) * (n : Nat) then (n : Int) * (R.length : Nat) * (w : Nat) else (n : Int) * (n : Nat) := rfl
    rw [if_pos em, decide_eq_true (by rw [em]; split <;> assumption)]
    exact q _

theorem ok_mark {P : Program} {w : World} {K : PySem.W.Frag} {mg : Str → Option Value} {base : Heap} (T : Txt K mg) : Ok P w K mg base "mark" 1 ["row", "s", "p"] C_mark := by
  obtain ⟨f, fd, F, hm, b⟩ := T.d_mark
  exact ⟨f, fd, hm, F.kp, b, okD (W := W_mark) (k := 0) F sc_mark (fun cdv A outer s H E hr => jss_cons (js_set 3 sc_mark.nd rfl (Or.inl rfl) (je_int)) (jss_cons (js_for passD rfl (ji_list (je_revL (je_var 0))) (jg_name (js := [4]) 4 (by decide) sc_mark.nd rfl (Or.inl rfl)) (jss_one (js_set 3 sc_mark.nd rfl (Or.inl rfl) (je_op op_mod opl_mod (je_op op_addAll opl_add (je_op op_mulC opl_mul (je_var 3) (je_var 1)) (je_var 4)) (je_var 2))))) (jss_one (js_ret (je_var 3))))) rd_mark⟩
theorem ok_product {P : Program} {w : World} {K : PySem.W.Frag} {mg : Str → Option Value} {base : Heap} (T : Txt K mg) (G_mark : Ok P w K mg base "mark" 1 ["row", "s", "p"] C_mark) : Ok P w K mg base "product" 2 ["rows", "s", "t", "p"] C_product__7 := by
  obtain ⟨f, fd, F, hm, b⟩ := T.d_product
  exact ⟨f, fd, hm, F.kp, b, okD (W := W_product__7) (k := 1) F sc_product (fun cdv A outer s H E hr => jss_cons (js_set 4 sc_product.nd rfl (Or.inl rfl) (je_op op_mod opl_mod (je_int) (je_var 3))) (jss_cons (js_for passD rfl (ji_list (je_var 0)) (jg_name (js := [5]) 5 (by decide) sc_product.nd rfl (Or.inl rfl)) (jss_one (js_set 4 sc_product.nd rfl (Or.inl rfl) (je_op op_mod opl_mod (je_op op_mulC opl_mul (je_var 4) (je_op op_sub opl_sub (je_var 2) (je_callO G_mark takesD (hr.mono (by decide)) (by rfl) (ja_cons (je_var 5) (ja_cons (je_var 1) (ja_cons (je_var 3) (ja_nil)))) 3))) (je_var 3))))) (jss_one (js_ret (je_var 4))))) rd_product__7⟩
theorem ok_same_bag {P : Program} {w : World} {K : PySem.W.Frag} {mg : Str → Option Value} {base : Heap} (T : Txt K mg) (G_product : Ok P w K mg base "product" 2 ["rows", "s", "t", "p"] C_product__7) : Ok P w K mg base "same_bag" 3 ["rows", "others", "s", "t", "p"] C_same_bag := by
  obtain ⟨f, fd, F, hm, b⟩ := T.d_same_bag
  exact ⟨f, fd, hm, F.kp, b, okD (W := W_same_bag) (k := 2) F sc_same_bag (fun cdv A outer s H E hr => jss_one (js_ret (je_and (je_cmp (op_eqD hr.units) opl_eq (je_callB call_len cbl_len (by rfl) T.n_len bt_len (ja_cons (je_var 0) (ja_nil))) (je_callB call_len cbl_len (by rfl) T.n_len bt_len (ja_cons (je_var 1) (ja_nil))) (nomark _)) (je_one (je_cmp (op_eqD hr.units) opl_eq (je_callO G_product takesD (hr.mono (by decide)) (by rfl) (ja_cons (je_var 0) (ja_cons (je_var 2) (ja_cons (je_var 3) (ja_cons (je_var 4) (ja_nil))))) 4) (je_callO G_product takesD (hr.mono (by decide)) (by rfl) (ja_cons (je_var 1) (ja_cons (je_var 2) (ja_cons (je_var 3) (ja_cons (je_var 4) (ja_nil))))) 4) (nomark _)))))) rd_same_bag⟩
theorem ok_count_of {P : Program} {w : World} {K : PySem.W.Frag} {mg : Str → Option Value} {base : Heap} (T : Txt K mg) : Ok P w K mg base "count_of" 1 ["rows", "row"] C_count_of := by
  obtain ⟨f, fd, F, hm, b⟩ := T.d_count_of
  exact ⟨f, fd, hm, F.kp, b, okD (W := W_count_of) (k := 0) F sc_count_of (fun cdv A outer s H E hr => jss_one (js_ret (je_callB call_len cbl_len (by rfl) T.n_len bt_len (ja_cons (je_lc (own := [("other", 2)]) rfl sc_count_of.nd (ji_list (je_var 0)) (blkOk_by (N := ["rows", "row", "other"]) (sc := defScope s_count_of) (by decide +kernel)) (fun _ _ _ _ _ => jg_name (js := [2]) 2 (by decide) sc_count_of.nd rfl (Or.inl rfl)) (fun _ _ _ _ _ => jts_one (jt_cmp (op_eqD hr.units) opl_eq (je_var 2) (je_var 1) (nomark _))) (fun _ _ _ _ _ => je_var 2)) (ja_nil))))) rd_count_of⟩
theorem ok_bag_blame {P : Program} {w : World} {K : PySem.W.Frag} {mg : Str → Option Value} {base : Heap} (T : Txt K mg) (G_same_bag : Ok P w K mg base "same_bag" 3 ["rows", "others", "s", "t", "p"] C_same_bag) (G_mark : Ok P w K mg base "mark" 1 ["row", "s", "p"] C_mark) (G_count_of : Ok P w K mg base "count_of" 1 ["rows", "row"] C_count_of) : Ok P w K mg base "bag_blame" 4 ["rows", "others", "s", "t", "p"] C_bag_blame := by
  obtain ⟨f, fd, F, hm, b⟩ := T.d_bag_blame
  exact ⟨f, fd, hm, F.kp, b, okD (W := W_bag_blame) (k := 3) F sc_bag_blame (fun cdv A outer s H E hr => jss_cons (js_if (PW.pt (jw_or (jt_cmp (op_eqD hr.units) opl_eq (je_callB (cr_sortedR (room65 hr)) cbl_sortR (by rfl) T.n_sorted bt_sorted (ja_cons (je_var 0) (ja_nil))) (je_callB (cr_sortedR (room65 hr)) cbl_sortR (by rfl) T.n_sorted bt_sorted (ja_cons (je_var 1) (ja_nil))) (nomark _)) (jw_or1 (jt_not (jt_val (je_callO G_same_bag takesD (hr.mono (by decide)) (by rfl) (ja_cons (je_var 0) (ja_cons (je_var 1) (ja_cons (je_var 2) (ja_cons (je_var 3) (ja_cons (je_var 4) (ja_nil)))))) 5)))))) (jss_one (js_ret (je_non))) (jss_nil)) (jss_cons (js_set 5 sc_bag_blame.nd rfl (Or.inl rfl) (je_callB cr_sortedI cbl_sortI (by rfl) T.n_sorted bt_sorted (ja_cons (je_lc (own := [("row", 6)]) rfl sc_bag_blame.nd (ji_list (je_var 0)) (blkOk_by (N := ["rows", "others", "s", "t", "p", "marks", "row", "other"]) (sc := defScope s_bag_blame) (by decide +kernel)) (fun _ _ _ _ _ => jg_name (js := [6]) 6 (by decide) sc_bag_blame.nd rfl (Or.inl rfl)) (fun _ _ _ _ _ => jts_nil) (fun _ _ _ _ _ => je_callO G_mark takes0 (hr.mono (by decide)) (by rfl) (ja_cons (je_var 6) (ja_cons (je_var 2) (ja_cons (je_var 4) (ja_nil)))) 3)) (ja_nil)))) (jss_cons (js_if (jt_cmp (op_neD hr.units) opl_ne (je_var 5) (je_callB cr_sortedI cbl_sortI (by rfl) T.n_sorted bt_sorted (ja_cons (je_lc (own := [("row", 6)]) rfl sc_bag_blame.nd (ji_list (je_var 1)) (blkOk_by (N := ["rows", "others", "s", "t", "p", "marks", "row", "other"]) (sc := defScope s_bag_blame) (by decide +kernel)) (fun _ _ _ _ _ => jg_name (js := [6]) 6 (by decide) sc_bag_blame.nd rfl (Or.inl rfl)) (fun _ _ _ _ _ => jts_nil) (fun _ _ _ _ _ => je_callO G_mark takes0 (hr.mono (by decide)) (by rfl) (ja_cons (je_var 6) (ja_cons (je_var 2) (ja_cons (je_var 4) (ja_nil)))) 3)) (ja_nil))) (nomark _)) (jss_one (js_ret (je_tup (ja_cons (je_str) (ja_cons (je_var 3) (ja_nil)))))) (jss_nil)) (jss_cons (js_for passD rfl (ji_list (je_var 0)) (jg_name (js := [6]) 6 (by decide) sc_bag_blame.nd rfl (Or.inl rfl)) (jss_one (js_if (jt_cmp op_gt opl_gt (je_callO G_count_of takesD (hr.mono (by decide)) (by rfl) (ja_cons (je_var 0) (ja_cons (je_var 6) (ja_nil))) 2) (je_callO G_count_of takesD (hr.mono (by decide)) (by rfl) (ja_cons (je_var 1) (ja_cons (je_var 6) (ja_nil))) 2) (nomark _)) (jss_one (js_for passD rfl (ji_list (je_var 1)) (jg_name (js := [7]) 7 (by decide) sc_bag_blame.nd rfl (Or.inl rfl)) (jss_one (js_if (PW.pt (jw_and (jt_cmp (op_neD hr.units) opl_ne (je_var 7) (je_var 6) (nomark _)) (jw_and1 (jt_cmp (op_eqD hr.units) opl_eq (je_callO G_mark takesD (hr.mono (by decide)) (by rfl) (ja_cons (je_var 7) (ja_cons (je_var 2) (ja_cons (je_var 4) (ja_nil)))) 3) (je_callO G_mark takesD (hr.mono (by decide)) (by rfl) (ja_cons (je_var 6) (ja_cons (je_var 2) (ja_cons (je_var 4) (ja_nil)))) 3) (nomark _))))) (jss_one (js_ret (je_tup (ja_cons (je_str) (ja_cons (je_callTy call_list_of cbl_list (by rfl) T.n_list bt_list (ja_cons (je_var 6) (ja_nil))) (ja_cons (je_callTy call_list_of cbl_list (by rfl) T.n_list bt_list (ja_cons (je_var 7) (ja_nil))) (ja_nil))))))) (jss_nil))))) (jss_nil)))) (jss_one (js_ret (je_non))))))) rd_bag_blame⟩
theorem ok_most_same {P : Program} {w : World} {K : PySem.W.Frag} {mg : Str → Option Value} {base : Heap} (T : Txt K mg) : Ok P w K mg base "most_same" 1 ["many", "width", "p"] C_most_same := by
  obtain ⟨f, fd, F, hm, b⟩ := T.d_most_same
  exact ⟨f, fd, hm, F.kp, b, okD (W := W_most_same) (k := 0) F sc_most_same (fun cdv A outer s H E hr => jss_one (js_ret (je_callB (call_min2 rfl) cbl_min2 (by rfl) T.n_min bt_min (ja_cons (je_op op_mulC opl_mul (je_var 2) (je_var 2)) (ja_cons (je_op op_mulC opl_mul (je_op op_mulC opl_mul (je_var 2) (je_var 0)) (je_callB (call_max2 rfl) cbl_max2 (by rfl) T.n_max bt_max (ja_cons (je_int) (ja_cons (je_var 1) (ja_nil))))) (ja_nil)))))) rd_most_same⟩
theorem ok__law_state {P : Program} {w : World} {K : PySem.W.Frag} {mg : Str → Option Value} {base : Heap} (T : Txt K mg) : Ok P w K mg base "_law_state" 1 ["_law_script"] C_state := by
  obtain ⟨f, fd, F, hm, b⟩ := T.d__law_state
  exact state_close ⟨f, fd, hm, F.kp, b, okD (C := C_stateO) (W := W_state) (k := 0) F sc__law_state (fun cdv A outer s H E hr => jss_cons (js_set 1 sc__law_state.nd rfl (Or.inl rfl) (je_int)) (jss_cons (js_for passD rfl (ji_list (je_var 0)) (jg_name (js := [2]) 2 (by decide) sc__law_state.nd rfl (Or.inl rfl)) (jss_one (js_set 1 sc__law_state.nd rfl (Or.inl rfl) (je_op op_mod opl_mod (je_callTy call_int1 cbl_int (by rfl) T.n_int bt_int (ja_cons (je_op op_addAll opl_add (je_op op_mulC opl_mul (je_var 1) (je_int)) (je_var 2)) (ja_nil))) (je_int))))) (jss_one (js_ret (je_lstM (ja_cons (je_lcM (own := [("_law_cell", 2)]) rfl sc__law_state.nd (ji_list (je_var 0)) (blkOk_by (N := ["_law_script", "_law_seed", "_law_cell"]) (sc := defScope s__law_state) (by decide +kernel)) (fun _ _ _ _ _ => jg_name (js := [2]) 2 (by decide) sc__law_state.nd rfl (Or.inl rfl)) (fun _ _ _ _ _ => jts_nil) (fun _ _ _ _ _ => je_callB call_abs cbl_abs (by rfl) T.n_abs bt_abs (ja_cons (je_var 2) (ja_nil)))) (ja_cons (je_op op_addAll opl_add (je_var 1) (je_int)) (ja_nil)))))))) rd_state⟩
theorem ok__law_draw {P : Program} {w : World} {K : PySem.W.Frag} {mg : Str → Option Value} {base : Heap} (T : Txt K mg) : Ok P w K mg base "_law_draw" 1 ["_law_state_here", "_law_many"] C_draw := by
  obtain ⟨f, fd, F, hm, b⟩ := T.d__law_draw
  exact draw_close ⟨f, fd, hm, F.kp, b, okD (C := C_drawO) (W := W_draw1) (k := 0) F sc__law_draw (fun cdv A outer s H E hr => jss_cons (js_set 2 sc__law_draw.nd rfl (Or.inl rfl) (je_ix (je_var 0) (je_int))) (jss_cons (js_while passD (PW.pt (jw_and (jt_cmp op_gt opl_gt (je_callB call_len cbl_len (by rfl) T.n_len bt_len (ja_cons (je_var 2) (ja_nil))) (je_int) (nomark _)) (jw_and1 (jt_cmp (op_eqD hr.units) opl_eq (je_ix (je_var 2) (je_int)) (je_int) (nomark _))))) (jss_one (js_expr (je_mL PySem.F.slot_list_pop PySem.F.type_list_pop mt_popAt mtl_popAt (je_var 2) (ja_cons (je_int) (ja_nil)))))) (jss_cons (js_if (jt_cmp op_gt opl_gt (je_callB call_len cbl_len (by rfl) T.n_len bt_len (ja_cons (je_var 2) (ja_nil))) (je_int) (nomark _)) (jss_cons (js_set 4 sc__law_draw.nd rfl (Or.inl rfl) (je_ix (je_var 2) (je_int))) (jss_cons (js_setIx (je_op op_fdivW opl_div (je_var 4) (je_var 1)) (je_var 2) (je_int) (pg_sub (je_var 2) (je_int) set_list)) (jss_one (js_ret (je_op op_mod opl_mod (je_callTy call_int1 cbl_int (by rfl) T.n_int bt_int (ja_cons (je_var 4) (ja_nil))) (je_var 1)))))) (jss_nil)) (jss_cons (js_set 3 sc__law_draw.nd rfl (Or.inl rfl) (je_op op_mod opl_mod (je_callTy call_int1 cbl_int (by rfl) T.n_int bt_int (ja_cons (je_op op_addAll opl_add (je_op op_mulC opl_mul (je_ix (je_var 0) (je_int)) (je_int)) (je_int)) (ja_nil))) (je_int))) (jss_cons (js_setIx (je_var 3) (je_var 0) (je_int) (pg_sub (je_var 0) (je_int) set_list)) (jss_one (js_ret (je_op op_mod opl_mod (je_callTy call_int1 cbl_int (by rfl) T.n_int bt_int (ja_cons (je_op op_fdivW opl_div (je_var 3) (je_int)) (ja_nil))) (je_var 1))))))))) rd_draw1⟩
theorem ok__law_pick {P : Program} {w : World} {K : PySem.W.Frag} {mg : Str → Option Value} {base : Heap} (T : Txt K mg) (G__law_draw : Ok P w K mg base "_law_draw" 1 ["_law_state_here", "_law_many"] C_draw) : Ok P w K mg base "_law_pick" 2 ["_law_state_here", "_law_row"] C_pick := by
  obtain ⟨f, fd, F, hm, b⟩ := T.d__law_pick
  exact ⟨f, fd, hm, F.kp, b, okD (W := W_pick) (k := 1) F sc__law_pick (fun cdv A outer s H E hr => jss_one (js_ret (je_ix (je_var 1) (je_callO G__law_draw takesD (hr.mono (by decide)) (by rfl) (ja_cons (je_var 0) (ja_cons (je_callB call_len cbl_len (by rfl) T.n_len bt_len (ja_cons (je_var 1) (ja_nil))) (ja_nil))) 2)))) rd_pick⟩
theorem ok__law_rows {P : Program} {w : World} {K : PySem.W.Frag} {mg : Str → Option Value} {base : Heap} (T : Txt K mg) (G__law_draw : Ok P w K mg base "_law_draw" 1 ["_law_state_here", "_law_many"] C_draw) (G__law_pick : Ok P w K mg base "_law_pick" 2 ["_law_state_here", "_law_row"] C_pick) : Ok P w K mg base "_law_rows" 3 ["_law_state_here", "_law_many", "_law_width", "_law_p"] C__law_rows := by
  obtain ⟨f, fd, F, hm, b⟩ := T.d__law_rows
  exact ⟨f, fd, hm, F.kp, b, okD (W := W__law_rows) (k := 2) F sc__law_rows (fun cdv A outer s H E hr => jss_cons (js_set 4 sc__law_rows.nd rfl (Or.inr rfl) (je_lc (own := [("_law_j", 5)]) rfl sc__law_rows.nd (ji_range1 (by rfl) T.n_range (ja_cons (je_op op_addAll opl_add (je_int) (je_callO G__law_draw takesD (hr.mono (by decide)) (by rfl) (ja_cons (je_var 0) (ja_cons (je_op op_addAll opl_add (je_var 1) (je_int)) (ja_nil))) 2)) (ja_nil))) (blkOk_by (N := ["_law_state_here", "_law_many", "_law_width", "_law_p", "_law_pool", "_law_j", "_law_k"]) (sc := defScope s__law_rows) (by decide +kernel)) (fun _ _ _ _ _ => jg_name (js := [5]) 5 (by decide) sc__law_rows.nd rfl (Or.inl rfl)) (fun _ _ _ _ _ => jts_nil) (fun _ _ _ _ _ => je_lc (own := [("_law_k", 6)]) rfl sc__law_rows.nd (ji_range1 (by rfl) T.n_range (ja_cons (je_var 2) (ja_nil))) (blkOk_in (N := ["_law_state_here", "_law_many", "_law_width", "_law_p", "_law_pool", "_law_j", "_law_k"]) (sc := defScope s__law_rows) rfl rfl (blkOk_by (by decide +kernel))) (fun _ _ _ _ _ => jg_name (js := [6]) 6 (by decide) sc__law_rows.nd rfl (Or.inl rfl)) (fun _ _ _ _ _ => jts_nil) (fun _ _ _ _ _ => je_callO G__law_draw takes0 (hr.mono (by decide)) (by rfl) (ja_cons (je_var 0) (ja_cons (je_var 3) (ja_nil))) 2)))) (jss_one (js_ret (je_lc (own := [("_law_k", 6)]) rfl sc__law_rows.nd (ji_range1 (by rfl) T.n_range (ja_cons (je_var 1) (ja_nil))) (blkOk_by (N := ["_law_state_here", "_law_many", "_law_width", "_law_p", "_law_pool", "_law_j", "_law_k"]) (sc := defScope s__law_rows) (by decide +kernel)) (fun _ _ _ _ _ => jg_name (js := [6]) 6 (by decide) sc__law_rows.nd rfl (Or.inl rfl)) (fun _ _ _ _ _ => jts_nil) (fun _ _ _ _ _ => je_callTy call_list_of cbl_list (by rfl) T.n_list bt_list (ja_cons (je_callO G__law_pick takes0 (hr.mono (by decide)) (by rfl) (ja_cons (je_var 0) (ja_cons (je_var 4) (ja_nil))) 2) (ja_nil))))))) rd__law_rows⟩
theorem ok__law_mark {P : Program} {w : World} {K : PySem.W.Frag} {mg : Str → Option Value} {base : Heap} (T : Txt K mg) : Ok P w K mg base "_law_mark" 1 ["_law_row", "_law_s", "_law_p"] C__law_mark := by
  obtain ⟨f, fd, F, hm, b⟩ := T.d__law_mark
  exact ⟨f, fd, hm, F.kp, b, okD (W := W__law_mark) (k := 0) F sc__law_mark (fun cdv A outer s H E hr => jss_cons (js_set 3 sc__law_mark.nd rfl (Or.inl rfl) (je_int)) (jss_cons (js_set 4 sc__law_mark.nd rfl (Or.inl rfl) (je_int)) (jss_cons (js_for passD rfl (ji_list (je_var 0)) (jg_name (js := [5]) 5 (by decide) sc__law_mark.nd rfl (Or.inl rfl)) (jss_cons (js_set 3 sc__law_mark.nd rfl (Or.inl rfl) (je_op op_mod opl_mod (je_callTy call_int1 cbl_int (by rfl) T.n_int bt_int (ja_cons (je_op op_addAll opl_add (je_var 3) (je_op op_mulC opl_mul (je_var 5) (je_var 4))) (ja_nil))) (je_var 2))) (jss_one (js_set 4 sc__law_mark.nd rfl (Or.inl rfl) (je_op op_mod opl_mod (je_callTy call_int1 cbl_int (by rfl) T.n_int bt_int (ja_cons (je_op op_mulC opl_mul (je_var 4) (je_var 1)) (ja_nil))) (je_var 2)))))) (jss_one (js_ret (je_var 3)))))) rd__law_mark⟩
theorem ok__law_product {P : Program} {w : World} {K : PySem.W.Frag} {mg : Str → Option Value} {base : Heap} (T : Txt K mg) (G__law_mark : Ok P w K mg base "_law_mark" 1 ["_law_row", "_law_s", "_law_p"] C__law_mark) : Ok P w K mg base "_law_product" 2 ["_law_rows_here", "_law_s", "_law_t", "_law_p"] C__law_product := by
  obtain ⟨f, fd, F, hm, b⟩ := T.d__law_product
  exact ⟨f, fd, hm, F.kp, b, okD (W := W__law_product) (k := 1) F sc__law_product (fun cdv A outer s H E hr => jss_cons (js_set 4 sc__law_product.nd rfl (Or.inl rfl) (je_int)) (jss_cons (js_for passD rfl (ji_list (je_var 0)) (jg_name (js := [5]) 5 (by decide) sc__law_product.nd rfl (Or.inl rfl)) (jss_one (js_set 4 sc__law_product.nd rfl (Or.inl rfl) (je_op op_mod opl_mod (je_callTy call_int1 cbl_int (by rfl) T.n_int bt_int (ja_cons (je_op op_mulC opl_mul (je_var 4) (je_op op_sub opl_sub (je_var 2) (je_callO G__law_mark takesD (hr.mono (by decide)) (by rfl) (ja_cons (je_var 5) (ja_cons (je_var 1) (ja_cons (je_var 3) (ja_nil)))) 3))) (ja_nil))) (je_var 3))))) (jss_one (js_ret (je_op op_mod opl_mod (je_callTy call_int1 cbl_int (by rfl) T.n_int bt_int (ja_cons (je_var 4) (ja_nil))) (je_var 3)))))) rd__law_product⟩
theorem ok__law_turned {P : Program} {w : World} {K : PySem.W.Frag} {mg : Str → Option Value} {base : Heap} (T : Txt K mg) (G__law_draw : Ok P w K mg base "_law_draw" 1 ["_law_state_here", "_law_many"] C_draw) : Ok P w K mg base "_law_turned" 2 ["_law_state_here", "_law_rows_here"] C__law_turned := by
  obtain ⟨f, fd, F, hm, b⟩ := T.d__law_turned
  exact ⟨f, fd, hm, F.kp, b, okDQ (W := W__law_turned) (k := 1) F sc__law_turned (fun cdv A outer s H E hr => jss_cons (js_set 2 sc__law_turned.nd rfl (Or.inl rfl) (je_callTy call_list_of cbl_listM (by rfl) T.n_list bt_list (ja_cons (je_var 1) (ja_nil)))) (jss_cons (js_set 3 sc__law_turned.nd rfl (Or.inl rfl) (je_lstM (ja_nil))) (jss_cons (js_while passD (jt_cmp op_gt opl_gt (je_callB call_len cbl_len (by rfl) T.n_len bt_len (ja_cons (je_var 2) (ja_nil))) (je_int) (nomark _)) (jss_one (js_expr (je_mL PySem.F.slot_list_append PySem.F.type_list_append mt_append mtl_app (je_var 3) (ja_cons (je_mL PySem.F.slot_list_pop PySem.F.type_list_pop mt_popAt mtl_popAt (je_var 2) (ja_cons (je_callO G__law_draw takesD (hr.mono (by decide)) (by rfl) (ja_cons (je_var 0) (ja_cons (je_callB call_len cbl_len (by rfl) T.n_len bt_len (ja_cons (je_var 2) (ja_nil))) (ja_nil))) 2) (ja_nil))) (ja_nil)))))) (jss_one (js_ret (je_var 3)))))) rd__law_turned⟩
theorem ok__law_times {P : Program} {w : World} {K : PySem.W.Frag} {mg : Str → Option Value} {base : Heap} (T : Txt K mg) : Ok P w K mg base "_law_times" 1 ["_law_rows_here", "_law_row"] C__law_times := by
  obtain ⟨f, fd, F, hm, b⟩ := T.d__law_times
  exact ⟨f, fd, hm, F.kp, b, okD (W := W__law_times) (k := 0) F sc__law_times (fun cdv A outer s H E hr => jss_one (js_ret (je_callB call_len cbl_len (by rfl) T.n_len bt_len (ja_cons (je_lc (own := [("_law_other_here", 2)]) rfl sc__law_times.nd (ji_list (je_var 0)) (blkOk_by (N := ["_law_rows_here", "_law_row", "_law_other_here"]) (sc := defScope s__law_times) (by decide +kernel)) (fun _ _ _ _ _ => jg_name (js := [2]) 2 (by decide) sc__law_times.nd rfl (Or.inl rfl)) (fun _ _ _ _ _ => jts_one (jt_cmp (op_eqD hr.units) opl_eq (je_var 2) (je_var 1) (nomark _))) (fun _ _ _ _ _ => je_var 2)) (ja_nil))))) rd__law_times⟩
theorem ok__law_other {P : Program} {w : World} {K : PySem.W.Frag} {mg : Str → Option Value} {base : Heap} (T : Txt K mg) (G__law_draw : Ok P w K mg base "_law_draw" 1 ["_law_state_here", "_law_many"] C_draw) (G__law_turned : Ok P w K mg base "_law_turned" 2 ["_law_state_here", "_law_rows_here"] C__law_turned) : Ok P w K mg base "_law_other" 3 ["_law_state_here", "_law_rows_here", "_law_width", "_law_p"] C__law_other := by
  obtain ⟨f, fd, F, hm, b⟩ := T.d__law_other
  exact ⟨f, fd, hm, F.kp, b, okDQ (W := W__law_other) (k := 2) F sc__law_other (fun cdv A outer s H E hr => jss_cons (js_set 4 sc__law_other.nd rfl (Or.inl rfl) (je_callO G__law_draw takesD (hr.mono (by decide)) (by rfl) (ja_cons (je_var 0) (ja_cons (je_int) (ja_nil))) 2)) (jss_cons (js_setLcH (own := [("_law_row", 7)]) 5 rfl sc__law_other.nd rfl rfl (sw_true rfl rfl rfl (by decide +kernel)) (ji_list (je_callO G__law_turned takesD (hr.mono (by decide)) (by rfl) (ja_cons (je_var 0) (ja_cons (je_var 1) (ja_nil))) 2)) (blkOk_by (N := ["_law_state_here", "_law_rows_here", "_law_width", "_law_p", "_law_kind", "_law_other_here", "_law_k", "_law_row", "_law_j"]) (sc := defScope s__law_other) (by decide +kernel)) (fun _ _ _ _ _ => jg_name (js := [7]) 7 (by decide) sc__law_other.nd rfl (Or.inl rfl)) (fun _ _ _ _ _ => jts_nil) (fun _ _ _ _ _ => je_callTy call_list_of cbl_listM (by rfl) T.n_list bt_list (ja_cons (je_var 7) (ja_nil)))) (jss_cons (js_set 6 sc__law_other.nd rfl (Or.inl rfl) (je_callO G__law_draw takesD (hr.mono (by decide)) (by rfl) (ja_cons (je_var 0) (ja_cons (je_callB call_len cbl_len (by rfl) T.n_len bt_len (ja_cons (je_var 5) (ja_nil))) (ja_nil))) 2)) (jss_cons (js_set 7 sc__law_other.nd rfl (Or.inl rfl) (je_ix (je_var 5) (je_var 6))) (jss_cons (js_if (jt_cmp (op_eqD hr.units) opl_eq (je_var 4) (je_int) (nomark _)) (jss_one (js_setIx (je_callO G__law_draw takesD (hr.mono (by decide)) (by rfl) (ja_cons (je_var 0) (ja_cons (je_var 3) (ja_nil))) 2) (je_var 7) (je_callO G__law_draw takesD (hr.mono (by decide)) (by rfl) (ja_cons (je_var 0) (ja_cons (je_var 2) (ja_nil))) 2) (pg_sub (je_var 7) (je_callO G__law_draw takesD (hr.mono (by decide)) (by rfl) (ja_cons (je_var 0) (ja_cons (je_var 2) (ja_nil))) 2) set_list))) (jss_one (js_if (jt_cmp (op_eqD hr.units) opl_eq (je_var 4) (je_int) (nomark _)) (jss_one (js_setIx (je_lc (own := [("_law_j", 8)]) rfl sc__law_other.nd (ji_range1 (by rfl) T.n_range (ja_cons (je_var 2) (ja_nil))) (blkOk_by (N := ["_law_state_here", "_law_rows_here", "_law_width", "_law_p", "_law_kind", "_law_other_here", "_law_k", "_law_row", "_law_j"]) (sc := defScope s__law_other) (by decide +kernel)) (fun _ _ _ _ _ => jg_name (js := [8]) 8 (by decide) sc__law_other.nd rfl (Or.inl rfl)) (fun _ _ _ _ _ => jts_nil) (fun _ _ _ _ _ => je_callO G__law_draw takes0 (hr.mono (by decide)) (by rfl) (ja_cons (je_var 0) (ja_cons (je_var 3) (ja_nil))) 2)) (je_var 5) (je_var 6) (pg_sub (je_var 5) (je_var 6) set_list))) (jss_one (js_if (jt_cmp (op_eqD hr.units) opl_eq (je_var 4) (je_int) (nomark _)) (jss_one (js_setIx (je_callTy call_list_of cbl_list (by rfl) T.n_list bt_list (ja_cons (je_ix (je_var 5) (je_callO G__law_draw takesD (hr.mono (by decide)) (by rfl) (ja_cons (je_var 0) (ja_cons (je_callB call_len cbl_len (by rfl) T.n_len bt_len (ja_cons (je_var 5) (ja_nil))) (ja_nil))) 2)) (ja_nil))) (je_var 5) (je_var 6) (pg_sub (je_var 5) (je_var 6) set_list))) (jss_one (js_setLcM (own := [("_law_row", 7)]) 5 rfl sc__law_other.nd rfl rfl (sw_true rfl rfl rfl (by decide +kernel)) (ji_list (je_var 1)) (blkOk_by (N := ["_law_state_here", "_law_rows_here", "_law_width", "_law_p", "_law_kind", "_law_other_here", "_law_k", "_law_row", "_law_j"]) (sc := defScope s__law_other) (by decide +kernel)) (fun _ _ _ _ _ => jg_name (js := [7]) 7 (by decide) sc__law_other.nd rfl (Or.inl rfl)) (fun _ _ _ _ _ => jts_nil) (fun _ _ _ _ _ => je_lc (own := [("_law_j", 8)]) rfl sc__law_other.nd (ji_range1 (by rfl) T.n_range (ja_cons (je_var 2) (ja_nil))) (blkOk_in (N := ["_law_state_here", "_law_rows_here", "_law_width", "_law_p", "_law_kind", "_law_other_here", "_law_k", "_law_row", "_law_j"]) (sc := defScope s__law_other) rfl rfl (blkOk_by (by decide +kernel))) (fun _ _ _ _ _ => jg_name (js := [8]) 8 (by decide) sc__law_other.nd rfl (Or.inl rfl)) (fun _ _ _ _ _ => jts_nil) (fun _ _ _ _ _ => je_callO G__law_draw takes0 (hr.mono (by decide)) (by rfl) (ja_cons (je_var 0) (ja_cons (je_var 3) (ja_nil))) 2))))))))) (jss_one (js_frz 5 (js_frzY 5 (js_ret (je_var 5)))))))))) rd__law_other⟩
theorem ok__law_due {P : Program} {w : World} {K : PySem.W.Frag} {mg : Str → Option Value} {base : Heap} (T : Txt K mg) (G__law_product : Ok P w K mg base "_law_product" 2 ["_law_rows_here", "_law_s", "_law_t", "_law_p"] C__law_product) (G__law_times : Ok P w K mg base "_law_times" 1 ["_law_rows_here", "_law_row"] C__law_times) (G__law_mark : Ok P w K mg base "_law_mark" 1 ["_law_row", "_law_s", "_law_p"] C__law_mark) : Ok P w K mg base "_law_due" 3 ["_law_rows_here", "_law_others", "_law_s", "_law_t", "_law_p"] C__law_due := by
  obtain ⟨f, fd, F, hm, b⟩ := T.d__law_due
  exact ⟨f, fd, hm, F.kp, b, okD (W := W__law_due) (k := 2) F sc__law_due (fun cdv A outer s H E hr => jss_cons (js_if (PW.pt (jw_or (jt_cmp (op_eqD hr.units) opl_eq (je_callB (cr_sortedR (room65 hr)) cbl_sortR (by rfl) T.n_sorted bt_sorted (ja_cons (je_var 0) (ja_nil))) (je_callB (cr_sortedR (room65 hr)) cbl_sortR (by rfl) T.n_sorted bt_sorted (ja_cons (je_var 1) (ja_nil))) (nomark _)) (jw_or1 (jt_cmp (op_neD hr.units) opl_ne (je_callO G__law_product takesD (hr.mono (by decide)) (by rfl) (ja_cons (je_var 0) (ja_cons (je_var 2) (ja_cons (je_var 3) (ja_cons (je_var 4) (ja_nil))))) 4) (je_callO G__law_product takesD (hr.mono (by decide)) (by rfl) (ja_cons (je_var 1) (ja_cons (je_var 2) (ja_cons (je_var 3) (ja_cons (je_var 4) (ja_nil))))) 4) (nomark _))))) (jss_one (js_ret (je_non))) (jss_nil)) (jss_cons (js_if (jt_cmp (op_neD hr.units) opl_ne (je_callB cr_sortedI cbl_sortI (by rfl) T.n_sorted bt_sorted (ja_cons (je_lc (own := [("_law_row", 5)]) rfl sc__law_due.nd (ji_list (je_var 0)) (blkOk_by (N := ["_law_rows_here", "_law_others", "_law_s", "_law_t", "_law_p", "_law_row", "_law_found", "_law_one"]) (sc := defScope s__law_due) (by decide +kernel)) (fun _ _ _ _ _ => jg_name (js := [5]) 5 (by decide) sc__law_due.nd rfl (Or.inl rfl)) (fun _ _ _ _ _ => jts_nil) (fun _ _ _ _ _ => je_callO G__law_mark takes0 (hr.mono (by decide)) (by rfl) (ja_cons (je_var 5) (ja_cons (je_var 2) (ja_cons (je_var 4) (ja_nil)))) 3)) (ja_nil))) (je_callB cr_sortedI cbl_sortI (by rfl) T.n_sorted bt_sorted (ja_cons (je_lc (own := [("_law_row", 5)]) rfl sc__law_due.nd (ji_list (je_var 1)) (blkOk_by (N := ["_law_rows_here", "_law_others", "_law_s", "_law_t", "_law_p", "_law_row", "_law_found", "_law_one"]) (sc := defScope s__law_due) (by decide +kernel)) (fun _ _ _ _ _ => jg_name (js := [5]) 5 (by decide) sc__law_due.nd rfl (Or.inl rfl)) (fun _ _ _ _ _ => jts_nil) (fun _ _ _ _ _ => je_callO G__law_mark takes0 (hr.mono (by decide)) (by rfl) (ja_cons (je_var 5) (ja_cons (je_var 2) (ja_cons (je_var 4) (ja_nil)))) 3)) (ja_nil))) (nomark _)) (jss_one (js_ret (je_tup (ja_cons (je_str) (ja_cons (je_var 3) (ja_nil)))))) (jss_nil)) (jss_cons (js_for passD rfl (ji_list (je_var 0)) (jg_name (js := [5]) 5 (by decide) sc__law_due.nd rfl (Or.inr rfl)) (jss_one (js_if (jt_cmp op_gt opl_gt (je_callO G__law_times takesD (hr.mono (by decide)) (by rfl) (ja_cons (je_var 0) (ja_cons (je_var 5) (ja_nil))) 2) (je_callO G__law_times takesD (hr.mono (by decide)) (by rfl) (ja_cons (je_var 1) (ja_cons (je_var 5) (ja_nil))) 2) (nomark _)) (jss_cons (js_setLc (own := [("_law_one", 7)]) 6 rfl sc__law_due.nd rfl rfl (sw_true rfl rfl rfl (by decide +kernel)) (ji_list (je_var 1)) (blkOk_by (N := ["_law_rows_here", "_law_others", "_law_s", "_law_t", "_law_p", "_law_row", "_law_found", "_law_one"]) (sc := defScope s__law_due) (by decide +kernel)) (fun _ _ _ _ _ => jg_name (js := [7]) 7 (by decide) sc__law_due.nd rfl (Or.inl rfl)) (fun _ _ _ _ _ => jts_one (PW.pt (jw_and (jt_cmp (op_neD hr.units) opl_ne (je_var 7) (je_var 5) (nomark _)) (jw_and1 (jt_cmp (op_eqD hr.units) opl_eq (je_callO G__law_mark takes0 (hr.mono (by decide)) (by rfl) (ja_cons (je_var 7) (ja_cons (je_var 2) (ja_cons (je_var 4) (ja_nil)))) 3) (je_callO G__law_mark takes0 (hr.mono (by decide)) (by rfl) (ja_cons (je_var 5) (ja_cons (je_var 2) (ja_cons (je_var 4) (ja_nil)))) 3) (nomark _)))))) (fun _ _ _ _ _ => je_var 7)) (jss_one (js_if (jt_cmp op_gt opl_gt (je_callB call_len cbl_len (by rfl) T.n_len bt_len (ja_cons (je_var 6) (ja_nil))) (je_int) (nomark _)) (jss_one (js_ret (je_tup (ja_cons (je_str) (ja_cons (je_var 5) (ja_cons (je_ix (je_var 6) (je_int)) (ja_nil))))))) (jss_nil)))) (jss_nil)))) (jss_one (js_ret (je_tup (ja_cons (je_str) (ja_nil)))))))) rd__law_due⟩
theorem ok_law {P : Program} {w : World} {K : PySem.W.Frag} {mg : Str → Option Value} {base : Heap} {f : Addr} {fd : FuncData} (T : Txt K mg) (G__law_state : Ok P w K mg base "_law_state" 1 ["_law_script"] C_state) (G__law_pick : Ok P w K mg base "_law_pick" 2 ["_law_state_here", "_law_row"] C_pick) (G__law_rows : Ok P w K mg base "_law_rows" 3 ["_law_state_here", "_law_many", "_law_width", "_law_p"] C__law_rows) (G__law_other : Ok P w K mg base "_law_other" 3 ["_law_state_here", "_law_rows_here", "_law_width", "_law_p"] C__law_other) (G_most_same : Ok P w K mg base "most_same" 1 ["many", "width", "p"] C_most_same) (G__law_draw : Ok P w K mg base "_law_draw" 1 ["_law_state_here", "_law_many"] C_draw) (G_same_bag : Ok P w K mg base "same_bag" 3 ["rows", "others", "s", "t", "p"] C_same_bag) (G__law_due : Ok P w K mg base "_law_due" 3 ["_law_rows_here", "_law_others", "_law_s", "_law_t", "_law_p"] C__law_due) (G_bag_blame : Ok P w K mg base "bag_blame" 4 ["rows", "others", "s", "t", "p"] C_bag_blame) (F : Fun K "law" "law" s_law f fd) : FnOk P w K mg base (L2.CX P w) 5 f fd ["_law_script"] (spOf K 1 (CLaw ClawT)) :=
  okD (W := W_law) (k := 4) F sc_law (fun cdv A outer s H E hr => jss_cons (js_set 1 sc_law.nd rfl (Or.inl rfl) (je_callO G__law_state takesD (hr.mono (by decide)) (by rfl) (ja_cons (je_var 0) (ja_nil)) 1)) (jss_cons (js_set 2 sc_law.nd rfl (Or.inl rfl) (je_callO G__law_pick takesD (hr.mono (by decide)) (by rfl) (ja_cons (je_var 1) (ja_cons (je_lst (ja_cons (je_int) (ja_cons (je_int) (ja_cons (je_int) (ja_cons (je_int) (ja_cons (je_int) (ja_cons (je_int) (ja_nil)))))))) (ja_nil))) 2)) (jss_cons (js_set 3 sc_law.nd rfl (Or.inl rfl) (je_op op_addAll opl_add (je_int) (je_callO G__law_draw takesD (hr.mono (by decide)) (by rfl) (ja_cons (je_var 1) (ja_cons (je_int) (ja_nil))) 2))) (jss_cons (js_set 4 sc_law.nd rfl (Or.inl rfl) (je_callO G__law_rows takesD (hr.mono (by decide)) (by rfl) (ja_cons (je_var 1) (ja_cons (je_op op_addAll opl_add (je_int) (je_callO G__law_draw takesD (hr.mono (by decide)) (by rfl) (ja_cons (je_var 1) (ja_cons (je_int) (ja_nil))) 2)) (ja_cons (je_var 3) (ja_cons (je_var 2) (ja_nil))))) 4)) (jss_cons (js_set 5 sc_law.nd rfl (Or.inl rfl) (je_callO G__law_other takesD (hr.mono (by decide)) (by rfl) (ja_cons (je_var 1) (ja_cons (je_var 4) (ja_cons (je_var 3) (ja_cons (je_var 2) (ja_nil))))) 4)) (jss_cons (js_set 6 sc_law.nd rfl (Or.inl rfl) (je_int)) (jss_cons (js_for passD rfl (ji_range1 (by rfl) T.n_range (ja_cons (je_var 2) (ja_nil))) (jg_name (js := [7]) 7 (by decide) sc_law.nd rfl (Or.inl rfl)) (jss_one (js_for passD rfl (ji_range1 (by rfl) T.n_range (ja_cons (je_var 2) (ja_nil))) (jg_name (js := [9]) 9 (by decide) sc_law.nd rfl (Or.inl rfl)) (jss_cons (js_set 10 sc_law.nd rfl (Or.inl rfl) (je_callO G_same_bag takesD (hr.mono (by decide)) (by rfl) (ja_cons (je_var 4) (ja_cons (je_var 5) (ja_cons (je_var 7) (ja_cons (je_var 9) (ja_cons (je_var 2) (ja_nil)))))) 5)) (jss_cons (js_set 11 sc_law.nd rfl (Or.inl rfl) (je_callO G__law_due takesD (hr.mono (by decide)) (by rfl) (ja_cons (je_var 4) (ja_cons (je_var 5) (ja_cons (je_var 7) (ja_cons (je_var 9) (ja_cons (je_var 2) (ja_nil)))))) 5)) (jss_cons (js_if (PW.pt (jw_or (jt_cmp (op_neD hr.units) opl_ne (je_callO G_bag_blame takesD (hr.mono (by decide)) (by rfl) (ja_cons (je_var 4) (ja_cons (je_var 5) (ja_cons (je_var 7) (ja_cons (je_var 9) (ja_cons (je_var 2) (ja_nil)))))) 5) (je_var 11) (nomark _)) (jw_or1 (jt_cmp (op_eqD hr.units) opl_eq (je_var 11) (je_tup (ja_cons (je_str) (ja_nil))) (nomark _))))) (jss_one (js_ret (je_bl))) (jss_nil)) (jss_one (js_if (jt_cmp (op_eqD hr.units) opl_eq (je_callB (cr_sortedR (room65 hr)) cbl_sortR (by rfl) T.n_sorted bt_sorted (ja_cons (je_var 4) (ja_nil))) (je_callB (cr_sortedR (room65 hr)) cbl_sortR (by rfl) T.n_sorted bt_sorted (ja_cons (je_var 5) (ja_nil))) (nomark _)) (jss_one (js_if (jt_cmp op_notBl opl_notB (je_var 10) (je_bl) (nomark _)) (jss_one (js_ret (je_bl))) (jss_nil))) (jss_one (js_if (jt_cmp (op_neD hr.units) opl_ne (je_var 10) (je_cmp op_notN opl_notN (je_var 11) (je_non) (nomark _)) (nomark _)) (jss_one (js_ret (je_bl))) (jss_one (js_set 6 sc_law.nd rfl (Or.inl rfl) (je_op op_addAll opl_add (je_var 6) (je_callTy call_int1 cbl_int (by rfl) T.n_int bt_int (ja_cons (je_var 10) (ja_nil)))))))))))))))) (jss_cons (js_set 8 sc_law.nd rfl (Or.inl rfl) (je_callO G_most_same takesD (hr.mono (by decide)) (by rfl) (ja_cons (je_callB call_len cbl_len (by rfl) T.n_len bt_len (ja_cons (je_var 4) (ja_nil))) (ja_cons (je_var 3) (ja_cons (je_var 2) (ja_nil)))) 3)) (jss_one (js_ret (je_and (je_cmp (op_eqD hr.units) opl_eq (je_var 8) (je_callB (call_min2 rfl) cbl_min2 (by rfl) T.n_min bt_min (ja_cons (je_op op_mulC opl_mul (je_var 2) (je_var 2)) (ja_cons (je_op op_mulC opl_mul (je_op op_mulC opl_mul (je_var 2) (je_callB call_len cbl_len (by rfl) T.n_len bt_len (ja_cons (je_var 4) (ja_nil)))) (je_var 3)) (ja_nil)))) (nomark _)) (je_one (je_cmp op_le opl_le (je_var 6) (je_var 8) (nomark _)))))))))))))) rd_law
theorem all_ok {P : Program} {w : World} {K : PySem.W.Frag} {mg : Str → Option Value} {base : Heap} {f : Addr} {fd : FuncData} (T : Txt K mg) (F : Fun K "law" "law" s_law f fd) : FnOk P w K mg base (L2.CX P w) 5 f fd ["_law_script"] (spOf K 1 (CLaw ClawT)) := by
  have G__law_state := ok__law_state (P := P) (w := w) (base := base) T
  have G__law_draw := ok__law_draw (P := P) (w := w) (base := base) T
  have G__law_pick := ok__law_pick (P := P) (w := w) (base := base) T G__law_draw
  have G__law_rows := ok__law_rows (P := P) (w := w) (base := base) T G__law_draw G__law_pick
  have G__law_turned := ok__law_turned (P := P) (w := w) (base := base) T G__law_draw
  have G__law_other := ok__law_other (P := P) (w := w) (base := base) T G__law_draw G__law_turned
  have G_most_same := ok_most_same (P := P) (w := w) (base := base) T
  have G_mark := ok_mark (P := P) (w := w) (base := base) T
  have G_product := ok_product (P := P) (w := w) (base := base) T G_mark
  have G_same_bag := ok_same_bag (P := P) (w := w) (base := base) T G_product
  have G__law_mark := ok__law_mark (P := P) (w := w) (base := base) T
  have G__law_product := ok__law_product (P := P) (w := w) (base := base) T G__law_mark
  have G__law_times := ok__law_times (P := P) (w := w) (base := base) T
  have G__law_due := ok__law_due (P := P) (w := w) (base := base) T G__law_product G__law_times G__law_mark
  have G_count_of := ok_count_of (P := P) (w := w) (base := base) T
  have G_bag_blame := ok_bag_blame (P := P) (w := w) (base := base) T G_same_bag G_mark G_count_of
  exact ok_law T G__law_state G__law_pick G__law_rows G__law_other G_most_same G__law_draw G_same_bag G__law_due G_bag_blame F
theorem law_fin {l : PySem.W.OpenLaw} {w : World} {K : PySem.W.Frag} {mg : Str → Option Value} {fa : Addr} (T : Txt K mg) (hfa : mg "law" = some (.ref fa)) : ∃ fd : FuncData, (∀ (s : Shared) (v : Value), BindsTo s fd ⟨[v], []⟩ [("_law_script", v)]) ∧
    ∀ base : Heap, K.In base → base.Ns mainGlobals mg → FnOk l.prog w K mg base (L2.CX l.prog w) 5 fa fd ["_law_script"] (spOf K 1 (CLaw ClawT)) := by
  obtain ⟨f, fd, F, hm, b⟩ := T.d_law
  have e := hfa.symm.trans hm
  cases e
  exact ⟨fd, fun s v => .of_eq (b [v] rfl), fun base _ _ => all_ok T F⟩
end K77
open PySem PySem.W PyProof.Rows
open PySem PySem.W PySem.Calls PyProof.Rows
theorem PySem.Challenge.cw_layerask_k77_whole_counts_of_bags_holds : PySem.Challenge.rw_layerask_k77_whole_counts_of_bags.Holds := by
  refine K77.pre ?hc
  case hc =>
    refine Dl.walk_DE (l := PySem.Challenge.rw_layerask_k77_whole_counts_of_bags) (k := 5) (x := "_law_script") rfl rfl ⟨rfl, by decide, by decide⟩ ?F
    case F =>
      intro w mg fa h Y G hmg0
      obtain ⟨K, KX, c⟩ := Y
      have hmg : mg ("law" : PySem.Str) = some (.ref fa) := by
        have e : (HandSHeadRun.topDef (PySem.W.OpenLaw.row PySem.Challenge.rw_layerask_k77_whole_counts_of_bags).prog 18).name = ("law" : PySem.Str) := by kernel_rfl
        rw [← e]
        exact hmg0
      obtain ⟨fd, hb, hF⟩ := K77.law_fin (l := PySem.Challenge.rw_layerask_k77_whole_counts_of_bags) (w := w) (K77.he_txt KX G c) hmg
      exact ⟨K, fd, KX, hb, hF⟩
