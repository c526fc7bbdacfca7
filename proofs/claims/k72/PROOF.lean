import PyProof.Rows.All
import Wide.All
import OpenK.AllK
import Wide.FinOn
import HandS.ForMost
import HandS.ForExc
import HandS.Wide
import HandS.EndBits
import HandS.ExcInit
import HandS.IsInst
import HandS.ExcField
import HandS.ExcIs
import KE.KExcIs
import HandS.TryMany
import HandS.Deep
import HandS.Style
import HandS.CallSlots
import HandS.Head0
import HandS.Head1
import HandS.Head2
import HandS.HeadEnd
import HandS.HeadHook1
import PySem.Challenge.RW_layerask_k72_tables_pick
set_option Elab.async false
set_option linter.all false
set_option maxRecDepth 100000
set_option maxHeartbeats 4000000

/-! Data level: values as trees, a store of changing objects, readings lifted to them. -/
namespace Dl
open PySem L2

/-- where the class of this name stands -/
def kcl (K : PySem.W.Frag) (c : String) : Addr := match PySem.W.nsIn K mainGlobals (PySem.Str.ofString c) with
  | some (some (.ref C)) => C
  | _ => 0
theorem kcl_of {K : PySem.W.Frag} {c : String} {C : Addr} (h : PySem.W.nsIn K mainGlobals (PySem.Str.ofString c) = some (some (.ref C))) : kcl K c = C := by
  unfold kcl
  rw [h]

theorem ofString_inj {a b : String} : PySem.Str.ofString a = PySem.Str.ofString b ↔ a = b := by
  constructor
  · intro h
    rw [PySem.Str.ofString_eq_toList, PySem.Str.ofString_eq_toList] at h
    have h1 := congrArg (fun s => s.cps.toList) h
    have h2 : a.toList.map Char.toNat = b.toList.map Char.toNat := by simpa using h1
    have h3 : a.toList = b.toList := by
      refine List.map_inj_right (f := Char.toNat) ?_ |>.mp h2
      intro x y e
      exact Char.ext (UInt32.toNat_inj.mp e)
    exact String.ext h3
  · intro h; rw [h]
theorem ofString_beq {a b : String} : (PySem.Str.ofString a == PySem.Str.ofString b) = (a == b) := by
  rw [Bool.eq_iff_iff, beq_iff_eq, beq_iff_eq]
  exact ofString_inj

inductive D where
  | non | bl (b : Bool) | int (i : Int) | str (x : Str) | ty (n : String) | cls (c : String)
  | lst (ds : List D) | tup (ds : List D) | rol (ds : List D) | rot (ds : List D)
  | hnd (k : Nat) | st (k : Nat)
  | exc (a d : Addr) (c : String) (fs : List (String × D))

/-- the drawing state of a law: where it stands (k 0: a list of a list of ints and an int; k 1: a list of ints, the first a place in it) -/
structure LS where
  A : Addr
  c : Addr
  k : Nat
def LS.fp (S : LS) : List Addr := if S.k = 0 then [S.A, S.c] else [S.A]
def LS.ok (S : LS) (H : Hp) : Prop := if S.k = 0 then ∃ (cells : List Int) (seed : Int), H S.A = some (.lst [.ref S.c, .int seed]) ∧ H S.c = some (.lst (cells.map V.int))
  else ∃ (j : Int) (ns : List Int), 1 ≤ j ∧ H S.A = some (.lst ((j :: ns).map V.int))
theorem LS.fr (S : LS) (H H' : Hp) (e : ∀ a ∈ S.fp, H' a = H a) (h : S.ok H) : S.ok H' := by
  unfold LS.ok at *
  unfold LS.fp at e
  by_cases z : S.k = 0
  · rw [if_pos z] at *
    obtain ⟨cells, seed, h1, h2⟩ := h
    exact ⟨cells, seed, by rw [e _ (by simp)]; exact h1, by rw [e _ (by simp)]; exact h2⟩
  · rw [if_neg z] at *
    obtain ⟨j, ns, h0, h1⟩ := h
    exact ⟨j, ns, h0, by rw [e _ (by simp)]; exact h1⟩
/-- what changes -/
inductive MO where
  | lst (ds : List D)
  | ins (C : String) (fs : List (String × D))
  | dead
/-- s: 0 no drawing state yet, 1 there is one, 2 it is opened -/
structure MM where
  M : List MO
  s : Nat
structure Wd where
  F : Hp
  th : List Addr
  S : Option LS

section
variable (K : PySem.W.Frag) (w : Wd)
mutual
def Rep : D → V → Prop
  | .non, v => v = .non
  | .bl b, v => v = .bl b
  | .int i, v => v = .int i
  | .str x, v => v = .str x
  | .ty n, v => v = .ty n
  | .cls c, v => v = .ref (kcl K c)
  | .lst ds, v => ∃ a xs, v = .ref a ∧ w.F a = some (.lst xs) ∧ RepAll ds xs
  | .tup ds, v => ∃ a xs, v = .ref a ∧ w.F a = some (.tup xs) ∧ RepAll ds xs
  | .rol ds, v => ∃ a xs, v = .ref a ∧ SqL K w.F a xs ∧ RepAll ds xs
  | .rot ds, v => ∃ a xs, v = .ref a ∧ SqT K w.F a xs ∧ RepAll ds xs
  | .hnd k, v => ∃ a, v = .ref a ∧ w.th[k]? = some a
  | .st k, v => ∃ S, w.S = some S ∧ S.k = k ∧ v = .ref S.A
  | .exc a d c fs, v => v = .ref a ∧ ∃ xs, w.F d = some (.xd xs) ∧ RepF fs xs
def RepAll : List D → List V → Prop
  | [], vs => vs = []
  | d :: ds, vs => ∃ v r, vs = v :: r ∧ Rep d v ∧ RepAll ds r
def RepF : List (String × D) → List (Str × V) → Prop
  | [], vs => vs = []
  | (f, d) :: ds, vs => ∃ v r, vs = (PySem.Str.ofString f, v) :: r ∧ Rep d v ∧ RepF ds r
end
end

/-- later worlds -/
structure Wd.le (w w' : Wd) : Prop where
  F : ∀ a o, w.F a = some o → w'.F a = some o
  th : ∀ (k : Nat) a, w.th[k]? = some a → w'.th[k]? = some a
  S : ∀ S, w.S = some S → w'.S = some S
theorem Wd.le.refl (w : Wd) : w.le w := ⟨fun _ _ h => h, fun _ _ h => h, fun _ h => h⟩
theorem Wd.le.trans {a b c : Wd} (h : a.le b) (g : b.le c) : a.le c := ⟨fun x o e => g.F x o (h.F x o e), fun k x e => g.th k x (h.th k x e), fun S e => g.S S (h.S S e)⟩

theorem sql_mono {K : PySem.W.Frag} {H H' : Hp} {a : Addr} {xs : List V} (e : ∀ a o, H a = some o → H' a = some o) (h : SqL K H a xs) : SqL K H' a xs := by
  rcases h with (h | ⟨o, h⟩) | h
  · exact .inl (.inl (e _ _ h))
  · exact .inl (.inr ⟨o, e _ _ h⟩)
  · exact .inr h
theorem sqt_mono {K : PySem.W.Frag} {H H' : Hp} {a : Addr} {xs : List V} (e : ∀ a o, H a = some o → H' a = some o) (h : SqT K H a xs) : SqT K H' a xs := by
  rcases h with (h | ⟨o, h⟩) | h
  · exact .inl (.inl (e _ _ h))
  · exact .inl (.inr ⟨o, e _ _ h⟩)
  · exact .inr h
section
variable {K : PySem.W.Frag} {w w' : Wd}
mutual
theorem Rep.mono (l : w.le w') : ∀ (d : D) (v : V), Rep K w d v → Rep K w' d v
  | .non, _, h => h
  | .bl _, _, h => h
  | .int _, _, h => h
  | .str _, _, h => h
  | .ty _, _, h => h
  | .cls _, _, h => h
  | .lst ds, _, h => by
    obtain ⟨a, xs, e, q, r⟩ := h
    exact ⟨a, xs, e, l.F _ _ q, RepAll.mono l ds xs r⟩
  | .tup ds, _, h => by
    obtain ⟨a, xs, e, q, r⟩ := h
    exact ⟨a, xs, e, l.F _ _ q, RepAll.mono l ds xs r⟩
  | .rol ds, _, h => by
    obtain ⟨a, xs, e, q, r⟩ := h
    exact ⟨a, xs, e, sql_mono l.F q, RepAll.mono l ds xs r⟩
  | .rot ds, _, h => by
    obtain ⟨a, xs, e, q, r⟩ := h
    exact ⟨a, xs, e, sqt_mono l.F q, RepAll.mono l ds xs r⟩
  | .hnd k, _, h => by
    obtain ⟨a, e, q⟩ := h
    exact ⟨a, e, l.th _ _ q⟩
  | .st _, _, h => by
    obtain ⟨S, e, q⟩ := h
    exact ⟨S, l.S _ e, q⟩
  | .exc a d c fs, _, h => by
    obtain ⟨e, xs, q, r⟩ := h
    exact ⟨e, xs, l.F _ _ q, RepF.mono l fs xs r⟩
theorem RepAll.mono (l : w.le w') : ∀ (ds : List D) (vs : List V), RepAll K w ds vs → RepAll K w' ds vs
  | [], _, h => h
  | d :: ds, _, h => by
    obtain ⟨v, r, e, a, b⟩ := h
    exact ⟨v, r, e, Rep.mono l d v a, RepAll.mono l ds r b⟩
theorem RepF.mono (l : w.le w') : ∀ (ds : List (String × D)) (vs : List (Str × V)), RepF K w ds vs → RepF K w' ds vs
  | [], _, h => h
  | (f, d) :: ds, _, h => by
    obtain ⟨v, r, e, a, b⟩ := h
    exact ⟨v, r, e, Rep.mono l d v a, RepF.mono l ds r b⟩
end
theorem RepAll.length : ∀ {ds : List D} {vs : List V}, RepAll K w ds vs → vs.length = ds.length
  | [], _, h => by
    have e : _ = [] := h
    subst e; rfl
  | d :: ds, _, h => by
    obtain ⟨v, r, e, a, b⟩ := h
    subst e
    rw [List.length_cons, List.length_cons, RepAll.length b]
theorem RepAll.get : ∀ {ds : List D} {vs : List V} {i : Nat} {d : D}, RepAll K w ds vs → ds[i]? = some d → ∃ v, vs[i]? = some v ∧ Rep K w d v
  | [], _, _, _, _, h => by simp at h
  | d :: ds, _, i, d', h, e => by
    obtain ⟨v, r, rfl, a, b⟩ := h
    cases i with
    | zero => simp at e; subst e; exact ⟨v, rfl, a⟩
    | succ i => exact RepAll.get (i := i) b (by simpa using e)
theorem RepAll.append : ∀ {ds es : List D} {vs us : List V}, RepAll K w ds vs → RepAll K w es us → RepAll K w (ds ++ es) (vs ++ us)
  | [], _, _, _, h, g => by
    have q : _ = [] := h
    subst q; exact g
  | d :: ds, _, _, _, h, g => by
    obtain ⟨v, r, rfl, a, b⟩ := h
    exact ⟨v, _, rfl, a, RepAll.append b g⟩
theorem RepAll.set : ∀ {ds : List D} {vs : List V} {d : D} {v : V} (i : Nat), RepAll K w ds vs → Rep K w d v → RepAll K w (ds.set i d) (vs.set i v)
  | [], _, _, _, _, h, _ => by
    have q : _ = [] := h
    subst q; exact rfl
  | d :: ds, _, d', v', i, h, g => by
    obtain ⟨v, r, rfl, a, b⟩ := h
    cases i with
    | zero => exact ⟨v', r, rfl, g, b⟩
    | succ i => exact ⟨v, _, rfl, a, RepAll.set i b g⟩
theorem RepAll.take : ∀ {ds : List D} {vs : List V} (n : Nat), RepAll K w ds vs → RepAll K w (ds.take n) (vs.take n)
  | [], _, n, h => by
    have q : _ = [] := h
    subst q; simp; exact rfl
  | d :: ds, _, n, h => by
    obtain ⟨v, r, rfl, a, b⟩ := h
    cases n with
    | zero => exact rfl
    | succ n => exact ⟨v, _, rfl, a, RepAll.take n b⟩
theorem RepAll.drop : ∀ {ds : List D} {vs : List V} (n : Nat), RepAll K w ds vs → RepAll K w (ds.drop n) (vs.drop n)
  | [], _, n, h => by
    have q : _ = [] := h
    subst q; simp; exact rfl
  | d :: ds, _, n, h => by
    obtain ⟨v, r, rfl, a, b⟩ := h
    cases n with
    | zero => exact ⟨v, _, rfl, a, b⟩
    | succ n => exact RepAll.drop n b
theorem RepAll.reverse {ds : List D} {vs : List V} (h : RepAll K w ds vs) : RepAll K w ds.reverse vs.reverse := by
  induction ds generalizing vs with
  | nil =>
    have q : vs = [] := h
    subst q; exact rfl
  | cons d ds ih =>
    obtain ⟨v, r, rfl, a, b⟩ := h
    rw [List.reverse_cons, List.reverse_cons]
    exact RepAll.append (ih b) ⟨v, [], rfl, a, rfl⟩
theorem RepF.look : ∀ {ds : List (String × D)} {vs : List (Str × V)} {f : String} {d : D}, RepF K w ds vs → ds.lookup f = some d → ∃ v, vs.lookup (PySem.Str.ofString f) = some v ∧ Rep K w d v
  | [], _, _, _, _, h => by simp at h
  | (g, d) :: ds, _, f, d', h, e => by
    obtain ⟨v, r, rfl, a, b⟩ := h
    rw [List.lookup_cons] at e
    rw [List.lookup_cons, ofString_beq]
    cases hb : f == g with
    | true => rw [hb] at e; simp at e; subst e; exact ⟨v, rfl, a⟩
    | false => rw [hb] at e; exact RepF.look b e
theorem RepF.none : ∀ {ds : List (String × D)} {vs : List (Str × V)} {f : String}, RepF K w ds vs → ds.lookup f = Option.none → vs.lookup (PySem.Str.ofString f) = Option.none
  | [], _, _, h, _ => by
    have q : _ = [] := h
    subst q; rfl
  | (g, d) :: ds, _, f, h, e => by
    obtain ⟨v, r, rfl, a, b⟩ := h
    rw [List.lookup_cons] at e
    rw [List.lookup_cons, ofString_beq]
    cases hb : f == g with
    | true => rw [hb] at e; simp at e
    | false => rw [hb] at e; exact RepF.none b e
theorem RepF.length : ∀ {ds : List (String × D)} {vs : List (Str × V)}, RepF K w ds vs → vs.length = ds.length
  | [], _, h => by
    have e : _ = [] := h
    subst e; rfl
  | (f, d) :: ds, _, h => by
    obtain ⟨v, r, e, a, b⟩ := h
    subst e
    rw [List.length_cons, List.length_cons, RepF.length b]
def putD (f : String) (v : D) : List (String × D) → List (String × D)
  | [] => [(f, v)]
  | (g, x) :: r => if g = f then (g, v) :: r else (g, x) :: putD f v r
theorem RepF.put {f : String} {d : D} {v : V} (g : Rep K w d v) : ∀ {ds : List (String × D)} {vs : List (Str × V)}, RepF K w ds vs → RepF K w (putD f d ds) (putF (PySem.Str.ofString f) v vs)
  | [], _, h => by
    have q : _ = [] := h
    subst q; exact ⟨v, [], rfl, g, rfl⟩
  | (k, d') :: ds, _, h => by
    obtain ⟨u, r, rfl, a, b⟩ := h
    unfold putD putF
    by_cases e : k = f
    · rw [if_pos e, if_pos (ofString_inj.mpr e)]; exact ⟨v, r, by rw [e], g, b⟩
    · rw [if_neg e, if_neg (fun z => e (ofString_inj.mp z))]; exact ⟨u, _, rfl, a, RepF.put g b⟩
end

def ORep (K : PySem.W.Frag) (w : Wd) (H : Hp) (a : Addr) : MO → Prop
  | .lst ds => ∃ xs, H a = some (.lst xs) ∧ RepAll K w ds xs
  | .ins C fs => ∃ dx vs, H a = some (.ins (kcl K C) dx vs) ∧ RepF K w fs vs
  | .dead => ∃ o, H a = some o
theorem ORep.mono {K : PySem.W.Frag} {w w' : Wd} {H H' : Hp} {a : Addr} (l : w.le w') (e : H' a = H a) : ∀ {o : MO}, ORep K w H a o → ORep K w' H' a o
  | .lst ds, h => by
    obtain ⟨xs, q, r⟩ := h
    exact ⟨xs, e.trans q, RepAll.mono l _ _ r⟩
  | .ins C fs, h => by
    obtain ⟨dx, vs, q, r⟩ := h
    exact ⟨dx, vs, e.trans q, RepF.mono l _ _ r⟩
  | .dead, h => by
    obtain ⟨o, q⟩ := h
    exact ⟨o, e.trans q⟩
theorem ORep.there {K : PySem.W.Frag} {w : Wd} {H : Hp} {a : Addr} : ∀ {o : MO}, ORep K w H a o → ∃ o, H a = Option.some o
  | .lst _, ⟨_, q, _⟩ => ⟨_, q⟩
  | .ins _ _, ⟨_, _, q, _⟩ => ⟨_, q⟩
  | .dead, h => h
/-- the heap bears the world and the store -/
structure HRep (K : PySem.W.Frag) (w : Wd) (m : MM) (H : Hp) : Prop where
  ext : ∀ a o, w.F a = some o → H a = some o
  len : w.th.length = m.M.length
  nd : w.th.Nodup
  obj : ∀ (k : Nat) a o, w.th[k]? = some a → m.M[k]? = some o → ORep K w H a o
  thF : ∀ (k : Nat) a o, w.th[k]? = some a → m.M[k]? = some o → o ≠ .dead → w.F a = none
  ls : m.s = 1 → ∀ S, w.S = some S → S.ok H ∧ ∀ a ∈ S.fp, w.F a = none ∧ a ∉ w.th ∧ ∃ o, H a = some o
  flag : (m.s = 0 → w.S = none) ∧ (m.s = 1 → w.S.isSome = true)

abbrev Env := List (Option D)
abbrev XP := String → List (String × D) → MM → Prop
abbrev DE := Env → MM → (D → MM → Prop) → XP → Prop
abbrev DA := Env → MM → (List D → MM → Prop) → XP → Prop
abbrev DT := Env → MM → (Bool → MM → Prop) → XP → Prop
structure DN where
  nx : Env → MM → Prop
  rt : D → MM → Prop
  bk : Env → MM → Prop := fun _ _ => False
  ct : Env → MM → Prop := fun _ _ => False
def Slots (K : PySem.W.Frag) (w : Wd) (σ : St) (ρ : Env) : Prop := σ.length = ρ.length ∧ ∀ (i : Nat) d, ρ[i]? = some (some d) → ∃ v, σ[i]? = some (some v) ∧ Rep K w d v
theorem Slots.mono {K : PySem.W.Frag} {w w' : Wd} {σ : St} {ρ : Env} (l : w.le w') (h : Slots K w σ ρ) : Slots K w' σ ρ := ⟨h.1, fun i d e => let ⟨v, a, b⟩ := h.2 i d e; ⟨v, a, Rep.mono l _ _ b⟩⟩
theorem Slots.set {K : PySem.W.Frag} {w : Wd} {σ : St} {ρ : Env} {d : D} {v : V} (i : Nat) (h : Slots K w σ ρ) (r : Rep K w d v) : Slots K w (σ.set i (some v)) (ρ.set i (some d)) := by
  refine ⟨by rw [List.length_set, List.length_set]; exact h.1, fun j d' e => ?_⟩
  by_cases hj : i = j
  · subst hj
    have hl : i < ρ.length := by
      rcases Nat.lt_or_ge i ρ.length with q | q
      · exact q
      · rw [List.getElem?_eq_none (by simpa using q)] at e; cases e
    rw [List.getElem?_set_self hl] at e
    cases e
    exact ⟨v, by rw [List.getElem?_set_self (by rw [h.1]; exact hl)], r⟩
  · rw [List.getElem?_set_ne hj] at e
    obtain ⟨u, a, b⟩ := h.2 j d' e
    exact ⟨u, by rw [List.getElem?_set_ne hj]; exact a, b⟩
theorem Slots.wipe {K : PySem.W.Frag} {w : Wd} {σ : St} {ρ : Env} (h : Slots K w σ ρ) (i : Nat) : Slots K w (σ.set i none) (ρ.set i none) := by
  refine ⟨by rw [List.length_set, List.length_set]; exact h.1, fun j d' e => ?_⟩
  by_cases hj : i = j
  · subst hj
    by_cases hl : i < ρ.length
    · rw [List.getElem?_set_self hl] at e; cases e
    · rw [List.getElem?_eq_none (by simpa using hl)] at e; cases e
  · rw [List.getElem?_set_ne hj] at e
    obtain ⟨u, a, b⟩ := h.2 j d' e
    exact ⟨u, by rw [List.getElem?_set_ne hj]; exact a, b⟩

def XLift (K : PySem.W.Frag) (w : Wd) (E : WX) (σ : St) (Ψ : XP) : Prop := ∀ C fs m' w' H' d xs, w.le w' → HRep K w' m' H' → w'.F d = some (.xd xs) → RepF K w' fs xs → Ψ C fs m' → E (.ref (kcl K C)) (some d) σ H'
theorem XLift.mono {K : PySem.W.Frag} {w w' : Wd} {E : WX} {σ : St} {Ψ : XP} (l : w.le w') (h : XLift K w E σ Ψ) : XLift K w' E σ Ψ := fun C fs m' w2 H' d xs l2 a b c q => h C fs m' w2 H' d xs (l.trans l2) a b c q
def VLift (K : PySem.W.Frag) (w : Wd) (Q : VK) (Φ : D → MM → Prop) : Prop := ∀ d m' w' H' v, w.le w' → HRep K w' m' H' → Rep K w' d v → Φ d m' → Q v H'
theorem VLift.mono {K : PySem.W.Frag} {w w' : Wd} {Q : VK} {Φ : D → MM → Prop} (l : w.le w') (h : VLift K w Q Φ) : VLift K w' Q Φ := fun d m' w2 H' v l2 a b c => h d m' w2 H' v (l.trans l2) a b c
def SLift (K : PySem.W.Frag) (w : Wd) (Q : St → Hp → Prop) (Φ : Env → MM → Prop) : Prop := ∀ ρ m' w' H' σ, w.le w' → HRep K w' m' H' → Slots K w' σ ρ → Φ ρ m' → Q σ H'
theorem SLift.mono {K : PySem.W.Frag} {w w' : Wd} {Q : St → Hp → Prop} {Φ : Env → MM → Prop} (l : w.le w') (h : SLift K w Q Φ) : SLift K w' Q Φ := fun d m' w2 H' v l2 a b c => h d m' w2 H' v (l.trans l2) a b c
structure NLift (K : PySem.W.Frag) (w : Wd) (D : Ends) (N : DN) : Prop where
  nx : SLift K w D.nx N.nx
  rt : VLift K w D.rt N.rt
  bk : SLift K w D.bk N.bk
  ct : SLift K w D.ct N.ct
theorem NLift.mono {K : PySem.W.Frag} {w w' : Wd} {D : Ends} {N : DN} (l : w.le w') (h : NLift K w D N) : NLift K w' D N := ⟨h.nx.mono l, h.rt.mono l, h.bk.mono l, h.ct.mono l⟩

abbrev XS := Env → XP
def SX (K : PySem.W.Frag) (w : Wd) (E : WX) (Ψ : XS) : Prop := ∀ ρ σ w1, w.le w1 → Slots K w1 σ ρ → XLift K w1 E σ (Ψ ρ)
theorem SX.mono {K : PySem.W.Frag} {w w' : Wd} {E : WX} {Ψ : XS} (l : w.le w') (h : SX K w E Ψ) : SX K w' E Ψ := fun ρ σ w1 l1 s => h ρ σ w1 (l.trans l1) s
structure At (K : PySem.W.Frag) (E : WX) (w : Wd) (σ : St) (H : Hp) (ρ : Env) (m : MM) (Ψ : XP) : Prop where
  h : HRep K w m H
  s : Slots K w σ ρ
  x : XLift K w E σ Ψ
theorem At.to {K : PySem.W.Frag} {E : WX} {w w' : Wd} {σ : St} {H H' : Hp} {ρ : Env} {m m' : MM} {Ψ : XP} (a : At K E w σ H ρ m Ψ) (l : w.le w') (h : HRep K w' m' H') : At K E w' σ H' ρ m' Ψ := ⟨h, a.s.mono l, a.x.mono l⟩
structure AtS (K : PySem.W.Frag) (E : WX) (w : Wd) (σ : St) (H : Hp) (ρ : Env) (m : MM) (Ψ : XS) : Prop where
  h : HRep K w m H
  s : Slots K w σ ρ
  x : SX K w E Ψ
theorem AtS.to {K : PySem.W.Frag} {E : WX} {w w' : Wd} {σ : St} {H H' : Hp} {ρ : Env} {m m' : MM} {Ψ : XS} (a : AtS K E w σ H ρ m Ψ) (l : w.le w') (h : HRep K w' m' H') : AtS K E w' σ H' ρ m' Ψ := ⟨h, a.s.mono l, a.x.mono l⟩
theorem AtS.at {K : PySem.W.Frag} {E : WX} {w : Wd} {σ : St} {H : Hp} {ρ : Env} {m : MM} {Ψ : XS} (a : AtS K E w σ H ρ m Ψ) : At K E w σ H ρ m (Ψ ρ) := ⟨a.h, a.s, a.x ρ σ w (Wd.le.refl w) a.s⟩
abbrev DS := DN → XS → Env → MM → Prop
def lift (K : PySem.W.Frag) (E : WX) (W : DE) : TE := fun σ H Q => ∃ w ρ m Ψ Φ, At K E w σ H ρ m Ψ ∧ VLift K w Q Φ ∧ W ρ m Φ Ψ
def liftA (K : PySem.W.Frag) (E : WX) (W : DA) : TA := fun σ H Q => ∃ w ρ m Ψ Φ, At K E w σ H ρ m Ψ ∧ (∀ ds m' w' H' vs, w.le w' → HRep K w' m' H' → RepAll K w' ds vs → Φ ds m' → Q vs H') ∧ W ρ m Φ Ψ
def liftT (K : PySem.W.Frag) (E : WX) (W : DT) : TT := fun σ H Q => ∃ w ρ m Ψ Φ, At K E w σ H ρ m Ψ ∧ (∀ b m' w' H', w.le w' → HRep K w' m' H' → Φ b m' → Q b H') ∧ W ρ m Φ Ψ
def liftS (K : PySem.W.Frag) (E : WX) (W : DS) : TS := fun D σ H => ∃ w ρ m Ψ N, AtS K E w σ H ρ m Ψ ∧ NLift K w D N ∧ W N Ψ ρ m

/-! ### judgements -/
abbrev JE (X : Cx) (E : WX) (e : Expr) (W : DE) : Prop := PE X e (lift X.K E W)
abbrev JA (X : Cx) (E : WX) (es : List Expr) (W : DA) : Prop := PA X es (liftA X.K E W)
abbrev JT (X : Cx) (E : WX) (e : Expr) (W : DT) : Prop := PT X e (liftT X.K E W)
abbrev JW (X : Cx) (E : WX) (e : Expr) (W : DT) : Prop := PW X e (liftT X.K E W)
abbrev JS (X : Cx) (E : WX) (st : Stmt) (W : DS) : Prop := PS X st (liftS X.K E W)
abbrev JSs (X : Cx) (E : WX) (st : List Stmt) (W : DS) : Prop := PSs X st (liftS X.K E W)
theorem PE.imp {X : Cx} {e : Expr} {t t' : TE} (h : PE X e t) (i : ∀ σ H Q, t' σ H Q → t σ H Q) : PE X e t' := ⟨fun pins s σ H Q I q => h.run pins s σ H Q I (i σ H Q q)⟩
theorem PA.imp {X : Cx} {e : List Expr} {t t' : TA} (h : PA X e t) (i : ∀ σ H Q, t' σ H Q → t σ H Q) : PA X e t' := ⟨fun pos pins s σ H Q I q => h.run pos pins s σ H Q I (i σ H Q q)⟩
theorem PT.imp {X : Cx} {e : Expr} {t t' : TT} (h : PT X e t) (i : ∀ σ H Q, t' σ H Q → t σ H Q) : PT X e t' := ⟨fun pins s σ H Q I q => h.run pins s σ H Q I (i σ H Q q)⟩
theorem PW.imp {X : Cx} {e : Expr} {t t' : TT} (h : PW X e t) (i : ∀ σ H Q, t' σ H Q → t σ H Q) : PW X e t' := ⟨fun wh pins s σ H Q I q => h.run wh pins s σ H Q I (i σ H Q q)⟩
theorem PS.imp {X : Cx} {e : Stmt} {t t' : TS} (h : PS X e t) (i : ∀ D σ H, t' D σ H → t D σ H) : PS X e t' := ⟨fun pins s σ H D I q => h.run pins s σ H D I (i D σ H q)⟩
theorem PSs.imp {X : Cx} {e : List Stmt} {t t' : TS} (h : PSs X e t) (i : ∀ D σ H, t' D σ H → t D σ H) : PSs X e t' := ⟨fun pins s σ H D I q => h.run pins s σ H D I (i D σ H q)⟩
end Dl

namespace Dl
open PySem L2
section
variable {K : PySem.W.Frag} {w w' : Wd} {m m' : MM} {H H' : Hp} {p a : Addr} {ho : HO} {k : Nat}

theorem ORep.ex (e : ∀ a o, H a = some o → H' a = some o) : ∀ {o : MO}, ORep K w H a o → ORep K w H' a o
  | .lst ds, ⟨xs, q, r⟩ => ⟨xs, e _ _ q, r⟩
  | .ins C fs, ⟨dx, vs, q, r⟩ => ⟨dx, vs, e _ _ q, r⟩
  | .dead, ⟨o, q⟩ => ⟨o, e _ _ q⟩
theorem HRep.ex (h : HRep K w m H) (e : ∀ a o, H a = some o → H' a = some o) : HRep K w m H' where
  ext := fun a o q => e a o (h.ext a o q)
  len := h.len
  nd := h.nd
  obj := fun k a o q1 q2 => (h.obj k a o q1 q2).ex e
  thF := h.thF
  ls := fun s1 S q => by
    obtain ⟨h1, h2⟩ := h.ls s1 S q
    refine ⟨S.fr H H' (fun a ha => ?_) h1, fun a ha => ?_⟩
    · obtain ⟨_, _, o, ho⟩ := h2 a ha
      rw [ho, e a o ho]
    · obtain ⟨q1, q2, o, ho⟩ := h2 a ha
      exact ⟨q1, q2, o, e a o ho⟩
  flag := h.flag
theorem HRep.thO (h : HRep K w m H) {k : Nat} {a : Addr} (e : w.th[k]? = some a) : ∃ o, m.M[k]? = some o ∧ ORep K w H a o := by
  have hk : k < w.th.length := (List.getElem?_eq_some_iff.mp e).1
  rw [h.len] at hk
  exact ⟨m.M[k], List.getElem?_eq_getElem hk, h.obj k a _ e (List.getElem?_eq_getElem hk)⟩
theorem HRep.thH (h : HRep K w m H) {a : Addr} (e : a ∈ w.th) : ∃ o, H a = some o := by
  obtain ⟨k, hk, rfl⟩ := List.mem_iff_getElem.mp e
  obtain ⟨o, _, q⟩ := h.thO (List.getElem?_eq_getElem hk)
  exact q.there
theorem HRep.nof (h : HRep K w m H) (hp : H p = none) : w.F p = none := by
  cases q : w.F p with
  | none => rfl
  | some o => rw [h.ext p o q] at hp; cases hp
theorem HRep.not (h : HRep K w m H) (hp : H p = none) : p ∉ w.th := fun z => by
  obtain ⟨o, q⟩ := h.thH z
  rw [hp] at q; cases q

/-- a new frozen object -/
def Wd.put (w : Wd) (p : Addr) (ho : HO) : Wd := ⟨upd w.F p ho, w.th, w.S⟩
theorem Wd.le_put (h : w.F p = none) : w.le (w.put p ho) := ⟨fun a o e => by show upd w.F p ho a = some o; rw [upd_ne (ne_of_none e h)]; exact e, fun _ _ e => e, fun _ e => e⟩
theorem ex_new (hp : H p = none) : ∀ a o, H a = some o → upd H p ho a = some o := fun a o e => by rw [upd_ne (ne_of_none e hp)]; exact e
theorem HRep.put (h : HRep K w m H) (hp : H p = none) : HRep K (w.put p ho) m (upd H p ho) where
  ext := fun a o q => by
    have q : upd w.F p ho a = some o := q
    by_cases e : a = p
    · subst e; rw [upd_same] at q ⊢; exact q
    · rw [upd_ne e] at q ⊢; exact h.ext a o q
  len := h.len
  nd := h.nd
  obj := fun k a o q1 q2 => by
    have z := h.obj k a o q1 q2
    have ne : a ≠ p := fun e => h.not hp (by rw [← e]; exact List.mem_of_getElem? q1)
    exact z.mono (Wd.le_put (h.nof hp)) (upd_ne ne)
  thF := fun k a o q1 q2 q3 => by
    have ne : a ≠ p := fun e => h.not hp (by rw [← e]; exact List.mem_of_getElem? q1)
    show upd w.F p ho a = none
    rw [upd_ne ne]; exact h.thF k a o q1 q2 q3
  ls := fun s1 S q => by
    obtain ⟨h1, h2⟩ := h.ls s1 S q
    have ne : ∀ a ∈ S.fp, a ≠ p := fun a ha e => by
      obtain ⟨_, _, o, ho⟩ := h2 a ha
      rw [e, hp] at ho; cases ho
    refine ⟨S.fr H _ (fun a ha => upd_ne (ne a ha)) h1, fun a ha => ?_⟩
    obtain ⟨q1, q2, o, q3⟩ := h2 a ha
    refine ⟨?_, q2, o, by rw [upd_ne (ne a ha)]; exact q3⟩
    show upd w.F p ho a = none
    rw [upd_ne (ne a ha)]; exact q1
  flag := h.flag
theorem rep_put_lst {ds : List D} {xs : List V} (h : HRep K w m H) (hp : H p = none) (r : RepAll K w ds xs) : Rep K (w.put p (.lst xs)) (.lst ds) (.ref p) :=
  ⟨p, xs, rfl, upd_same, RepAll.mono (Wd.le_put (h.nof hp)) _ _ r⟩
theorem rep_put_tup {ds : List D} {xs : List V} (h : HRep K w m H) (hp : H p = none) (r : RepAll K w ds xs) : Rep K (w.put p (.tup xs)) (.tup ds) (.ref p) :=
  ⟨p, xs, rfl, upd_same, RepAll.mono (Wd.le_put (h.nof hp)) _ _ r⟩

/-- a new changing object -/
def Wd.add (w : Wd) (p : Addr) : Wd := ⟨w.F, w.th ++ [p], w.S⟩
def MM.push (m : MM) (o : MO) : MM := ⟨m.M ++ [o], m.s⟩
theorem Wd.le_add : w.le (w.add p) := ⟨fun _ _ e => e, fun k a e => by
  show (w.th ++ [p])[k]? = some a
  rw [List.getElem?_append_left (List.getElem?_eq_some_iff.mp e).1]; exact e, fun _ e => e⟩
theorem HRep.add {o : MO} (h : HRep K w m H) (hp : H p = none) (ob : ORep K (w.add p) (upd H p ho) p o) : HRep K (w.add p) (m.push o) (upd H p ho) where
  ext := fun a o q => ex_new hp a o (h.ext a o q)
  len := by show (w.th ++ [p]).length = (m.M ++ [o]).length; rw [List.length_append, List.length_append, h.len]; rfl
  nd := by
    show (w.th ++ [p]).Nodup
    rw [List.nodup_append]
    refine ⟨h.nd, by simp, fun a ha b hb e => ?_⟩
    have e2 : b = p := by simpa using hb
    subst e2; subst e
    exact h.not hp ha
  obj := fun k a o' q1 q2 => by
    have q1 : (w.th ++ [p])[k]? = some a := q1
    have q2 : (m.M ++ [o])[k]? = some o' := q2
    rcases Nat.lt_or_ge k w.th.length with hk | hk
    · rw [List.getElem?_append_left hk] at q1
      rw [List.getElem?_append_left (by rw [← h.len]; exact hk)] at q2
      have ne : a ≠ p := fun e => h.not hp (by rw [← e]; exact List.mem_of_getElem? q1)
      exact (h.obj k a o' q1 q2).mono Wd.le_add (upd_ne ne)
    · rw [List.getElem?_append_right hk] at q1
      rw [List.getElem?_append_right (by rw [← h.len]; exact hk)] at q2
      have hk2 : k = w.th.length := by
        have z := (List.getElem?_eq_some_iff.mp q1).1
        simp at z; omega
      subst hk2
      rw [Nat.sub_self] at q1
      rw [h.len, Nat.sub_self] at q2
      simp at q1 q2
      subst q1; subst q2
      exact ob
  thF := fun k a o' q1 q2 q3 => by
    have q1 : (w.th ++ [p])[k]? = some a := q1
    have q2 : (m.M ++ [o])[k]? = some o' := q2
    show w.F a = none
    rcases Nat.lt_or_ge k w.th.length with hk | hk
    · rw [List.getElem?_append_left hk] at q1
      rw [List.getElem?_append_left (by rw [← h.len]; exact hk)] at q2
      exact h.thF k a o' q1 q2 q3
    · rw [List.getElem?_append_right hk] at q1
      have z : a ∈ [p] := List.mem_of_getElem? q1
      have e : a = p := by simpa using z
      rw [e]; exact h.nof hp
  ls := fun s1 S q => by
    obtain ⟨h1, h2⟩ := h.ls s1 S q
    have ne : ∀ a ∈ S.fp, a ≠ p := fun a ha e => by
      obtain ⟨_, _, o, ho⟩ := h2 a ha
      rw [e, hp] at ho; cases ho
    refine ⟨S.fr H _ (fun a ha => upd_ne (ne a ha)) h1, fun a ha => ?_⟩
    obtain ⟨q1, q2, o, q3⟩ := h2 a ha
    refine ⟨q1, ?_, o, by rw [upd_ne (ne a ha)]; exact q3⟩
    show a ∉ w.th ++ [p]
    simp only [List.mem_append, List.mem_singleton, not_or]
    exact ⟨q2, ne a ha⟩
  flag := h.flag
theorem rep_add (h : HRep K w m H) : Rep K (w.add p) (.hnd m.M.length) (.ref p) := ⟨p, rfl, by
  show (w.th ++ [p])[m.M.length]? = some p
  rw [← h.len, List.getElem?_append_right (Nat.le_refl _)]; simp⟩

/-- a changing object is written -/
theorem HRep.wr {o o' : MO} (h : HRep K w m H) (e : w.th[k]? = some a) (eo : m.M[k]? = some o) (hd : o ≠ .dead) (ob : ORep K w (upd H a ho) a o') : HRep K w ⟨m.M.set k o', m.s⟩ (upd H a ho) where
  ext := fun b u q => by
    have ne : b ≠ a := fun z => by rw [z, h.thF k a o e eo hd] at q; cases q
    rw [upd_ne ne]; exact h.ext b u q
  len := by show w.th.length = (m.M.set k o').length; rw [List.length_set]; exact h.len
  nd := h.nd
  obj := fun j b u q1 q2 => by
    have q2 : (m.M.set k o')[j]? = some u := q2
    by_cases hj : k = j
    · subst hj
      rw [e] at q1; cases q1
      rw [List.getElem?_set_self (List.getElem?_eq_some_iff.mp eo).1] at q2
      cases q2; exact ob
    · rw [List.getElem?_set_ne hj] at q2
      have ne : b ≠ a := fun z => hj (by
        subst z
        obtain ⟨k1, k2⟩ := List.getElem?_eq_some_iff.mp e
        obtain ⟨j1, j2⟩ := List.getElem?_eq_some_iff.mp q1
        exact (List.getElem_inj h.nd).mp (k2.trans j2.symm))
      exact (h.obj j b u q1 q2).mono (Wd.le.refl w) (upd_ne ne)
  thF := fun j b u q1 q2 q3 => by
    have q2 : (m.M.set k o')[j]? = some u := q2
    by_cases hj : k = j
    · subst hj
      rw [e] at q1; cases q1
      exact h.thF k a o e eo hd
    · rw [List.getElem?_set_ne hj] at q2
      exact h.thF j b u q1 q2 q3
  ls := fun s1 S q => by
    obtain ⟨h1, h2⟩ := h.ls s1 S q
    have ne : ∀ b ∈ S.fp, b ≠ a := fun b hb z => (h2 b hb).2.1 (by rw [z]; exact List.mem_of_getElem? e)
    refine ⟨S.fr H _ (fun b hb => upd_ne (ne b hb)) h1, fun b hb => ?_⟩
    obtain ⟨q1, q2, o, q3⟩ := h2 b hb
    exact ⟨q1, q2, o, by rw [upd_ne (ne b hb)]; exact q3⟩
  flag := h.flag
/-- a changing list is frozen -/
theorem HRep.frz {ds : List D} (h : HRep K w m H) (e : w.th[k]? = some a) (eo : m.M[k]? = some (.lst ds)) : ∃ xs, w.F a = none ∧ H a = some (.lst xs) ∧ RepAll K w ds xs ∧ HRep K (w.put a (.lst xs)) ⟨m.M.set k .dead, m.s⟩ H := by
  obtain ⟨xs, hx, r⟩ := h.obj k a _ e eo
  have fa := h.thF k a _ e eo (fun z => by cases z)
  refine ⟨xs, fa, hx, r, ?_⟩
  have le := Wd.le_put (ho := .lst xs) fa
  have nea : ∀ {j : Nat} {b : Addr}, w.th[j]? = some b → b = a → k = j := fun {j b} q1 z => by
    subst z
    obtain ⟨k1, k2⟩ := List.getElem?_eq_some_iff.mp e
    obtain ⟨j1, j2⟩ := List.getElem?_eq_some_iff.mp q1
    exact (List.getElem_inj h.nd).mp (k2.trans j2.symm)
  exact {
    ext := fun b u q => by
      have q : upd w.F a (.lst xs) b = some u := q
      by_cases z : b = a
      · subst z; rw [upd_same] at q; cases q; exact hx
      · rw [upd_ne z] at q; exact h.ext b u q
    len := by show w.th.length = (m.M.set k .dead).length; rw [List.length_set]; exact h.len
    nd := h.nd
    obj := fun j b u q1 q2 => by
      have q2 : (m.M.set k .dead)[j]? = some u := q2
      by_cases hj : k = j
      · subst hj
        have q1 : w.th[k]? = some b := q1
        rw [e] at q1; cases q1
        rw [List.getElem?_set_self (List.getElem?_eq_some_iff.mp eo).1] at q2
        cases q2; exact ⟨_, hx⟩
      · rw [List.getElem?_set_ne hj] at q2
        exact (h.obj j b u q1 q2).mono le rfl
    thF := fun j b u q1 q2 q3 => by
      have q2 : (m.M.set k .dead)[j]? = some u := q2
      have q1 : w.th[j]? = some b := q1
      by_cases hj : k = j
      · subst hj
        rw [List.getElem?_set_self (List.getElem?_eq_some_iff.mp eo).1] at q2
        cases q2; exact absurd rfl q3
      · rw [List.getElem?_set_ne hj] at q2
        show upd w.F a (.lst xs) b = none
        rw [upd_ne (fun z => hj (nea q1 z))]
        exact h.thF j b u q1 q2 q3
    ls := fun s1 S q => by
      obtain ⟨h1, h2⟩ := h.ls s1 S q
      refine ⟨h1, fun b hb => ?_⟩
      obtain ⟨q1, q2, o, q3⟩ := h2 b hb
      refine ⟨?_, q2, o, q3⟩
      show upd w.F a (.lst xs) b = none
      rw [upd_ne (fun z => q2 (by rw [z]; exact List.mem_of_getElem? e))]; exact q1
    flag := h.flag }
/-- the last objects are let go -/
def Wd.cut (w : Wd) (n : Nat) : Wd := ⟨w.F, w.th.take n, w.S⟩
def MM.cut (m : MM) (n : Nat) : MM := ⟨m.M.take n, m.s⟩
mutual
def clD (n : Nat) : D → Bool
  | .hnd k => decide (k < n)
  | .lst ds => clAll n ds
  | .tup ds => clAll n ds
  | .rol ds => clAll n ds
  | .rot ds => clAll n ds
  | .exc _ _ _ fs => clF n fs
  | _ => true
def clAll (n : Nat) : List D → Bool
  | [] => true
  | d :: ds => clD n d && clAll n ds
def clF (n : Nat) : List (String × D) → Bool
  | [] => true
  | (_, d) :: ds => clD n d && clF n ds
end
def clO (n : Nat) : MO → Bool
  | .lst ds => clAll n ds
  | .ins _ fs => clF n fs
  | .dead => true
mutual
theorem Rep.cl : ∀ (d : D) (v : V), Rep K w d v → clD w.th.length d = true
  | .non, _, _ => rfl
  | .bl _, _, _ => rfl
  | .int _, _, _ => rfl
  | .str _, _, _ => rfl
  | .ty _, _, _ => rfl
  | .cls _, _, _ => rfl
  | .st _, _, _ => rfl
  | .lst ds, _, ⟨_, xs, _, _, r⟩ => RepAll.cl ds xs r
  | .tup ds, _, ⟨_, xs, _, _, r⟩ => RepAll.cl ds xs r
  | .rol ds, _, ⟨_, xs, _, _, r⟩ => RepAll.cl ds xs r
  | .rot ds, _, ⟨_, xs, _, _, r⟩ => RepAll.cl ds xs r
  | .exc _ _ _ fs, _, ⟨_, xs, _, r⟩ => RepF.cl fs xs r
  | .hnd k, _, ⟨a, _, q⟩ => by
    show decide (k < w.th.length) = true
    exact decide_eq_true (List.getElem?_eq_some_iff.mp q).1
theorem RepAll.cl : ∀ (ds : List D) (vs : List V), RepAll K w ds vs → clAll w.th.length ds = true
  | [], _, _ => rfl
  | d :: ds, _, ⟨v, r, _, a, b⟩ => by
    show (clD _ d && clAll _ ds) = true
    rw [Rep.cl d v a, RepAll.cl ds r b]; rfl
theorem RepF.cl : ∀ (ds : List (String × D)) (vs : List (Str × V)), RepF K w ds vs → clF w.th.length ds = true
  | [], _, _ => rfl
  | (f, d) :: ds, _, ⟨v, r, _, a, b⟩ => by
    show (clD _ d && clF _ ds) = true
    rw [Rep.cl d v a, RepF.cl ds r b]; rfl
end
mutual
theorem Rep.cut {n : Nat} : ∀ (d : D) (v : V), Rep K w d v → clD n d = true → Rep K (w.cut n) d v
  | .non, _, h, _ => h
  | .bl _, _, h, _ => h
  | .int _, _, h, _ => h
  | .str _, _, h, _ => h
  | .ty _, _, h, _ => h
  | .cls _, _, h, _ => h
  | .st _, _, h, _ => h
  | .lst ds, _, ⟨a, xs, e, q, r⟩, c => ⟨a, xs, e, q, RepAll.cut ds xs r c⟩
  | .tup ds, _, ⟨a, xs, e, q, r⟩, c => ⟨a, xs, e, q, RepAll.cut ds xs r c⟩
  | .rol ds, _, ⟨a, xs, e, q, r⟩, c => ⟨a, xs, e, q, RepAll.cut ds xs r c⟩
  | .rot ds, _, ⟨a, xs, e, q, r⟩, c => ⟨a, xs, e, q, RepAll.cut ds xs r c⟩
  | .exc _ _ _ fs, _, ⟨e, xs, q, r⟩, c => ⟨e, xs, q, RepF.cut fs xs r c⟩
  | .hnd k, _, ⟨a, e, q⟩, c => ⟨a, e, by
    have c : decide (k < n) = true := c
    have c := of_decide_eq_true c
    show (w.th.take n)[k]? = some a
    rw [List.getElem?_take_of_lt c]; exact q⟩
theorem RepAll.cut {n : Nat} : ∀ (ds : List D) (vs : List V), RepAll K w ds vs → clAll n ds = true → RepAll K (w.cut n) ds vs
  | [], _, h, _ => h
  | d :: ds, _, ⟨v, r, e, a, b⟩, c => by
    have c : (clD n d && clAll n ds) = true := c
    rw [Bool.and_eq_true] at c
    exact ⟨v, r, e, Rep.cut d v a c.1, RepAll.cut ds r b c.2⟩
theorem RepF.cut {n : Nat} : ∀ (ds : List (String × D)) (vs : List (Str × V)), RepF K w ds vs → clF n ds = true → RepF K (w.cut n) ds vs
  | [], _, h, _ => h
  | (f, d) :: ds, _, ⟨v, r, e, a, b⟩, c => by
    have c : (clD n d && clF n ds) = true := c
    rw [Bool.and_eq_true] at c
    exact ⟨v, r, e, Rep.cut d v a c.1, RepF.cut ds r b c.2⟩
end
theorem ORep.cut {n : Nat} : ∀ {o : MO}, ORep K w H a o → clO n o = true → ORep K (w.cut n) H a o
  | .lst ds, ⟨xs, q, r⟩, c => ⟨xs, q, RepAll.cut ds xs r c⟩
  | .ins C fs, ⟨dx, vs, q, r⟩, c => ⟨dx, vs, q, RepF.cut fs vs r c⟩
  | .dead, h, _ => h
theorem ORep.cl : ∀ {o : MO}, ORep K w H a o → clO w.th.length o = true
  | .lst ds, ⟨xs, q, r⟩ => RepAll.cl ds xs r
  | .ins C fs, ⟨dx, vs, q, r⟩ => RepF.cl fs vs r
  | .dead, h => rfl
theorem HRep.cut {n : Nat} (h : HRep K w m H) (c : ∀ o ∈ m.M.take n, clO n o = true) : HRep K (w.cut n) (m.cut n) H where
  ext := h.ext
  len := by show (w.th.take n).length = (m.M.take n).length; rw [List.length_take, List.length_take, h.len]
  nd := h.nd.sublist (List.take_sublist _ _)
  obj := fun k a o q1 q2 => by
    have q1 : (w.th.take n)[k]? = some a := q1
    have q2 : (m.M.take n)[k]? = some o := q2
    have hk : k < n := by
      have z := (List.getElem?_eq_some_iff.mp q1).1
      rw [List.length_take] at z; omega
    have cc := c o (List.mem_of_getElem? q2)
    rw [List.getElem?_take_of_lt hk] at q1 q2
    exact (h.obj k a o q1 q2).cut cc
  thF := fun k a o q1 q2 q3 => by
    have q1 : (w.th.take n)[k]? = some a := q1
    have q2 : (m.M.take n)[k]? = some o := q2
    have hk : k < n := by
      have z := (List.getElem?_eq_some_iff.mp q1).1
      rw [List.length_take] at z; omega
    rw [List.getElem?_take_of_lt hk] at q1 q2
    exact h.thF k a o q1 q2 q3
  ls := fun s1 S q => by
    obtain ⟨h1, h2⟩ := h.ls s1 S q
    exact ⟨h1, fun a ha => ⟨(h2 a ha).1, fun z => (h2 a ha).2.1 (List.mem_of_mem_take z), (h2 a ha).2.2⟩⟩
  flag := h.flag
/-- objects as they were at an entry bear no later handles -/
theorem HRep.cls (h : HRep K w m H) : ∀ o ∈ m.M, clO m.M.length o = true := fun o ho => by
  obtain ⟨k, hk, rfl⟩ := List.mem_iff_getElem.mp ho
  have hk2 : k < w.th.length := by rw [h.len]; exact hk
  have z := (h.obj k _ _ (List.getElem?_eq_getElem hk2) (List.getElem?_eq_getElem hk)).cl
  rw [h.len] at z; exact z
theorem Wd.le_cut {w0 : Wd} {n : Nat} (l : w0.le w) (hn : w0.th.length ≤ n) : w0.le (w.cut n) := ⟨l.F, fun k a e => by
  show (w.th.take n)[k]? = some a
  rw [List.getElem?_take_of_lt (Nat.lt_of_lt_of_le (List.getElem?_eq_some_iff.mp e).1 hn)]; exact l.th k a e, l.S⟩
end
end Dl

namespace Dl
open PySem L2 PyProof.Rows

/-! ### expressions -/
def dVar (i : Nat) : DE := fun ρ m Φ _ => match ρ[i]? with
  | some (some d) => Φ d m
  | _ => False
def dC (d : D) : DE := fun _ m Φ _ => Φ d m
section
variable {X : Cx} {E : WX} {a b c : Expr} {Wa Wb Wc : DE} {pos : Pos}
theorem je_var (i : Nat) {x : Str} {pos : Pos} (hN : X.N[i]? = some x := by rfl) (hv : Vis X.env.scope x := by first | exact Or.inl rfl | exact Or.inr (Or.inl rfl) | exact Or.inr (Or.inr rfl)) (hd : (x == ("__debug__" : Str)) = false := by decide)
    (hcd : (x == ("__classdict__" : Str)) = false := by decide) : JE X E (.Name x pos) (dVar i) := PE.imp (pe_var hN hv hd hcd) fun σ H Q ⟨w, ρ, m, Ψ, Φ, a, vl, h⟩ => by
  unfold dVar at h
  split at h
  · rename_i d e
    obtain ⟨v, e1, r⟩ := a.s.2 i d e
    exact ⟨v, e1, vl d m w H v (.refl w) a.h r h⟩
  · exact h.elim
theorem je_of {e : Expr} {v : V} {d : D} (h : PE X e (tC v)) (r : ∀ w, Rep X.K w d v) : JE X E e (dC d) := PE.imp h fun σ H Q ⟨w, ρ, m, Ψ, Φ, a, vl, h⟩ => vl d m w H v (.refl w) a.h (r w) h
theorem je_int {i j pos} : JE X E (.Constant (.int i) j pos) (dC (.int i)) := je_of pe_int fun _ => rfl
theorem je_bl {b j pos} : JE X E (.Constant (.bool b) j pos) (dC (.bl b)) := je_of pe_bl fun _ => rfl
theorem je_str {x j pos} : JE X E (.Constant (.str x) j pos) (dC (.str x)) := je_of pe_str fun _ => rfl
/-- an operation on values, lifted -/
abbrev DO := D → D → MM → (D → MM → Prop) → Prop
def OpL (K : PySem.W.Frag) (r : R2) (o : DO) : Prop := ∀ w m H x y u v Q Φ, HRep K w m H → Rep K w x u → Rep K w y v → VLift K w Q Φ → o x y m Φ → r u v H Q
def dOp (o : DO) (a b : DE) : DE := fun ρ m Φ Ψ => a ρ m (fun x m1 => b ρ m1 (fun y m2 => o x y m2 Φ) Ψ) Ψ
theorem dOp_ok {r : R2} {o : DO} (hl : OpL X.K r o) {σ : L2.St} {H : Hp} {Q : VK} (h : lift X.K E (dOp o Wa Wb) σ H Q) : tOp r (lift X.K E Wa) (lift X.K E Wb) σ H Q := by
  obtain ⟨w, ρ, m, Ψ, Φ, a, vl, h⟩ := h
  refine ⟨w, ρ, m, Ψ, _, a, fun x m1 w1 H1 u l1 h1 r1 q1 => ?_, h⟩
  refine ⟨w1, ρ, m1, Ψ, _, a.to l1 h1, fun y m2 w2 H2 v l2 h2 r2 q2 => ?_, q1⟩
  exact hl w2 m2 H2 x y u v Q Φ h2 (Rep.mono l2 _ _ r1) r2 (vl.mono (l1.trans l2)) q2
theorem je_op {op : Operator} {r : R2} {o : DO} (ho : OpR X (binaryOp op) r) (hl : OpL X.K r o) (ha : JE X E a Wa) (hb : JE X E b Wb) : JE X E (.BinOp a op b pos) (dOp o Wa Wb) := PE.imp (pe_op ho ha hb) fun _ _ _ h => dOp_ok hl h
theorem je_cmp {op : CmpOp} {r : R2} {o : DO} (ho : OpR X (compareOp op) r) (hl : OpL X.K r o) (ha : JE X E a Wa) (hb : JE X E b Wb) (hm : behindInMarks op b = false) : JE X E (.Compare a [op] [b] pos) (dOp o Wa Wb) := PE.imp (pe_cmpR ho ha hb hm) fun _ _ _ h => dOp_ok hl h
/-- a value that is True or False, as a test -/
def dB (W : DE) : DT := fun ρ m Φ Ψ => W ρ m (fun d m1 => match d with
  | .bl b => Φ b m1
  | _ => False) Ψ
theorem dB_ok {t : TE} {W : DE} (ht : ∀ σ H Q, lift X.K E W σ H Q → t σ H Q) {σ : L2.St} {H : Hp} {Q : Bool → Hp → Prop} (h : liftT X.K E (dB W) σ H Q) : tTest t σ H Q := by
  obtain ⟨w, ρ, m, Ψ, Φ, a, vl, h⟩ := h
  refine ht σ H _ ⟨w, ρ, m, Ψ, _, a, fun d m1 w1 H1 v l1 h1 r1 q1 => ?_, h⟩
  cases d with
  | bl b => exact ⟨b, r1, vl b m1 w1 H1 l1 h1 q1⟩
  | _ => exact False.elim q1
theorem jt_cmp {op : CmpOp} {r : R2} {o : DO} (ho : OpR X (compareOp op) r) (hl : OpL X.K r o) (ha : JE X E a Wa) (hb : JE X E b Wb) (hm : behindInMarks op b = false) : JT X E (.Compare a [op] [b] pos) (dB (dOp o Wa Wb)) :=
  PT.imp (pt_cmpR ho ha hb hm) fun _ _ _ h => dB_ok (fun _ _ _ h => dOp_ok hl h) h
theorem jt_val {e : Expr} {W : DE} (h : JE X E e W) (he : ∀ whole, isTrue e X.env whole = (do let v ← whole; standAt e.pos; holding [v] (truthy v)) := by intro _; rfl) : JT X E e (dB W) :=
  PT.imp (pt_val h he) fun _ _ _ h => dB_ok (t := lift X.K E W) (fun _ _ _ h => h) h
/-- a op1 b op2 c -/
def dChain (o o' : DO) (a b c : DE) : DE := fun ρ m Φ Ψ => a ρ m (fun x m1 => b ρ m1 (fun y m2 => o x y m2 (fun z m3 => match z with
  | .bl k => if k = true then c ρ m3 (fun u m4 => o' y u m4 Φ) Ψ else Φ (.bl false) m3
  | _ => False)) Ψ) Ψ
/-- one-place operations -/
abbrev DO1 := D → MM → (D → MM → Prop) → Prop
def dUn (o : DO1) (a : DE) : DE := fun ρ m Φ Ψ => a ρ m (fun x m1 => o x m1 Φ) Ψ
/-! ### tests -/
variable {tA tB' : DT} {rest : List Expr}
def dAnd (t u : DT) : DT := fun ρ m Φ Ψ => t ρ m (fun c m1 => if c = true then u ρ m1 Φ Ψ else Φ false m1) Ψ
def dOr (t u : DT) : DT := fun ρ m Φ Ψ => t ρ m (fun c m1 => if c = true then Φ true m1 else u ρ m1 Φ Ψ) Ψ
def dNot (t : DT) : DT := fun ρ m Φ Ψ => t ρ m (fun c m1 => Φ (!c) m1) Ψ
theorem jw_and1 (ha : JT X E a tA) : JW X E (.BoolOp .And [a] pos) tA := pw_and1 ha
theorem jw_or1 (ha : JT X E a tA) : JW X E (.BoolOp .Or [a] pos) tA := pw_or1 ha
theorem jw_and (ha : JT X E a tA) (hb : JW X E (.BoolOp .And (b :: rest) pos) tB') : JW X E (.BoolOp .And (a :: b :: rest) pos) (dAnd tA tB') := PW.imp (pw_and ha hb) fun σ H Q ⟨w, ρ, m, Ψ, Φ, a, vl, h⟩ => by
  refine ⟨w, ρ, m, Ψ, _, a, fun c m1 w1 H1 l1 h1 q1 => ?_, h⟩
  cases c with
  | true => exact ⟨w1, ρ, m1, Ψ, Φ, a.to l1 h1, fun b m2 w2 H2 l2 h2 q2 => vl b m2 w2 H2 (l1.trans l2) h2 q2, q1⟩
  | false => exact vl false m1 w1 H1 l1 h1 q1
theorem jw_or (ha : JT X E a tA) (hb : JW X E (.BoolOp .Or (b :: rest) pos) tB') : JW X E (.BoolOp .Or (a :: b :: rest) pos) (dOr tA tB') := PW.imp (pw_or ha hb) fun σ H Q ⟨w, ρ, m, Ψ, Φ, a, vl, h⟩ => by
  refine ⟨w, ρ, m, Ψ, _, a, fun c m1 w1 H1 l1 h1 q1 => ?_, h⟩
  cases c with
  | false => exact ⟨w1, ρ, m1, Ψ, Φ, a.to l1 h1, fun b m2 w2 H2 l2 h2 q2 => vl b m2 w2 H2 (l1.trans l2) h2 q2, q1⟩
  | true => exact vl true m1 w1 H1 l1 h1 q1
theorem jt_not (ha : JT X E a tA) : JT X E (.UnaryOp .Not a pos) (dNot tA) := PT.imp (pt_not ha) fun σ H Q ⟨w, ρ, m, Ψ, Φ, a, vl, h⟩ =>
  ⟨w, ρ, m, Ψ, _, a, fun c m1 w1 H1 l1 h1 q1 => vl (!c) m1 w1 H1 l1 h1 q1, h⟩
/-- and, or, not as values of True and False -/
def dBlV (d : D) (f : Bool → Prop) : Prop := match d with
  | .bl b => f b
  | _ => False
def dAndV (a b : DE) : DE := fun ρ m Φ Ψ => a ρ m (fun x m1 => dBlV x fun c => if c = true then b ρ m1 Φ Ψ else Φ (.bl false) m1) Ψ
def dOrV (a b : DE) : DE := fun ρ m Φ Ψ => a ρ m (fun x m1 => dBlV x fun c => if c = true then Φ (.bl true) m1 else b ρ m1 Φ Ψ) Ψ
def dNotV (a : DE) : DE := fun ρ m Φ Ψ => a ρ m (fun x m1 => dBlV x fun c => Φ (.bl (!c)) m1) Ψ
theorem je_one {op} (h : JE X E a Wa) : JE X E (.BoolOp op [a] pos) Wa := pe_one h
theorem je_and (ha : JE X E a Wa) (hb : JE X E (.BoolOp .And (b :: rest) pos) Wb) : JE X E (.BoolOp .And (a :: b :: rest) pos) (dAndV Wa Wb) := PE.imp (pe_and ha hb) fun σ H Q ⟨w, ρ, m, Ψ, Φ, a, vl, h⟩ => by
  refine ⟨w, ρ, m, Ψ, _, a, fun c m1 w1 H1 v l1 h1 r1 q1 => ?_, h⟩
  cases c with
  | bl c =>
    refine ⟨c, r1, ?_⟩
    cases c with
    | true => exact ⟨w1, ρ, m1, Ψ, Φ, a.to l1 h1, vl.mono l1, q1⟩
    | false => exact vl (.bl false) m1 w1 H1 _ l1 h1 rfl q1
  | _ => exact False.elim q1
def dIfE (t : DT) (a b : DE) : DE := fun ρ m Φ Ψ => t ρ m (fun c m1 => if c = true then a ρ m1 Φ Ψ else b ρ m1 Φ Ψ) Ψ
/-! ### argument lists, displays -/
variable {es : List Expr} {Ws : DA}
def dNil : DA := fun _ m Φ _ => Φ [] m
def dCons (a : DE) (r : DA) : DA := fun ρ m Φ Ψ => a ρ m (fun x m1 => r ρ m1 (fun xs m2 => Φ (x :: xs) m2) Ψ) Ψ
theorem ja_nil : JA X E [] dNil := PA.imp pa_nil fun σ H Q ⟨w, ρ, m, Ψ, Φ, a, vl, h⟩ => vl [] m w H [] (.refl w) a.h rfl h
theorem ja_cons (ha : JE X E a Wa) (hr : JA X E es Ws) (hs : starEach (a :: es) X.env = (false, eval a X.env) :: starEach es X.env := by rfl) : JA X E (a :: es) (dCons Wa Ws) := PA.imp (pa_cons ha hr hs) fun σ H Q ⟨w, ρ, m, Ψ, Φ, a, vl, h⟩ => by
  refine ⟨w, ρ, m, Ψ, _, a, fun x m1 w1 H1 v l1 h1 r1 q1 => ?_, h⟩
  exact ⟨w1, ρ, m1, Ψ, _, a.to l1 h1, fun ds m2 w2 H2 vs l2 h2 r2 q2 => vl (x :: ds) m2 w2 H2 _ (l1.trans l2) h2 ⟨v, vs, rfl, Rep.mono l2 _ _ r1, r2⟩ q2, q1⟩
abbrev LIM : Nat := 16777216
theorem lim_sz {n : Nat} (h : n ≤ LIM) : n ≤ sizeLine := by rw [sizeLine_eq]; exact h
theorem lim_lt {n : Nat} (h : n < LIM) : n < sizeLine := by rw [sizeLine_eq]; exact h
def dLst (r : DA) : DE := fun ρ m Φ Ψ => r ρ m (fun ds m1 => ds.length ≤ LIM ∧ Φ (.lst ds) m1) Ψ
def dTup (r : DA) : DE := fun ρ m Φ Ψ => r ρ m (fun ds m1 => ds.length ≤ LIM ∧ Φ (.tup ds) m1) Ψ
def dLstM (r : DA) : DE := fun ρ m Φ Ψ => r ρ m (fun ds m1 => ds.length ≤ LIM ∧ Φ (.hnd m1.M.length) (m1.push (.lst ds))) Ψ
theorem je_lst (h : JA X E es Ws) : JE X E (.List es pos) (dLst Ws) := PE.imp (pe_lst h) fun σ H Q ⟨w, ρ, m, Ψ, Φ, a, vl, h⟩ =>
  ⟨w, ρ, m, Ψ, _, a, fun ds m1 w1 H1 vs l1 h1 r1 ⟨z, q1⟩ => ⟨lim_sz (by rw [r1.length]; exact z), fun p hp => vl _ m1 _ _ _ (l1.trans (Wd.le_put (h1.nof hp))) (h1.put hp) (rep_put_lst h1 hp r1) q1⟩, h⟩
theorem je_tup {x1} (h : JA X E es Ws) : JE X E (.Tuple es x1 pos) (dTup Ws) := PE.imp (pe_tup h) fun σ H Q ⟨w, ρ, m, Ψ, Φ, a, vl, h⟩ =>
  ⟨w, ρ, m, Ψ, _, a, fun ds m1 w1 H1 vs l1 h1 r1 ⟨z, q1⟩ => ⟨lim_sz (by rw [r1.length]; exact z), fun p hp => vl _ m1 _ _ _ (l1.trans (Wd.le_put (h1.nof hp))) (h1.put hp) (rep_put_tup h1 hp r1) q1⟩, h⟩
theorem je_lstM (h : JA X E es Ws) : JE X E (.List es pos) (dLstM Ws) := PE.imp (pe_lst h) fun σ H Q ⟨w, ρ, m, Ψ, Φ, a, vl, h⟩ =>
  ⟨w, ρ, m, Ψ, _, a, fun ds m1 w1 H1 vs l1 h1 r1 ⟨z, q1⟩ => ⟨lim_sz (by rw [r1.length]; exact z), fun p hp => vl _ _ _ _ _ (l1.trans Wd.le_add) (h1.add (o := .lst ds) hp ⟨vs, upd_same, RepAll.mono Wd.le_add _ _ r1⟩) (rep_add h1) q1⟩, h⟩

/-! ### calls -/
/-- what a def is worth: arguments, store, wanted end, wanted exception -/
abbrev DC := List D → MM → (D → MM → Prop) → XP → Prop
def spOf (K : PySem.W.Frag) (n : Nat) (C : DC) : Sp := fun vs H Q E => vs.length = n ∧ ∃ w ds m Φ Ψ, HRep K w m H ∧ RepAll K w ds vs ∧ VLift K w Q Φ ∧ XLift K w (fun cls d _ H => E cls d H) [] Ψ ∧ C ds m Φ Ψ
def dCall (n : Nat) (C : DC) (r : DA) : DE := fun ρ m Φ Ψ => r ρ m (fun ds m1 => ds.length = n ∧ C ds m1 Φ Ψ) Ψ
variable {k n : Nat} {f : Addr} {fd : FuncData} {ps : List Str} {C : DC} {x : Str} {p : Pos}
theorem call_ok {w : Wd} {ρ : Env} {m : MM} {Ψ : XP} {Φ : D → MM → Prop} {σ : L2.St} {H : Hp} {Q : VK} {ds : List D} {vs : List V} (a : At X.K E w σ H ρ m Ψ) (vl : VLift X.K w Q Φ) (r : RepAll X.K w ds vs) (hn : ds.length = n) (c : C ds m Φ Ψ) :
    spOf X.K n C (vs ++ []) H Q (WE E σ) := by
  rw [List.append_nil]
  exact ⟨r.length.trans hn, w, ds, m, Φ, Ψ, a.h, r, vl, fun C fs m' w' H' d xs l h b c q => a.x C fs m' w' H' d xs l h b c q, c⟩
theorem je_call {e : Expr} (tk : Takes X E) (F : FnOk X.prog X.w X.K X.mg X.base (L2.CX X.prog X.w) k f fd ps (spOf X.K n C)) (hr : Room k X.A) (hg : Gl X x) (hm : X.mg x = some (.ref f)) (hk : PySem.W.keepIn X.K (.ref f) = true) (hb : Binds X.K fd ps [])
    (ha : JA X E (e :: es) Ws) (hdb : (x == ("__debug__" : Str)) = false := by decide) (he : starEach (e :: es) X.env = (false, eval e X.env) :: starEach es X.env := by rfl) (hpl : (backTo pos (starEach es X.env)).any (·.1) = false := by rfl) :
    JE X E (.Call (.Name x p) (e :: es) [] pos) (dCall n C Ws) := PE.imp (pe_callS F hr hg hm hk hb (fun σ => passAt tk σ) ha hdb he hpl) fun σ H Q ⟨w, ρ, m, Ψ, Φ, a, vl, h⟩ =>
  ⟨w, ρ, m, Ψ, _, a, fun ds m1 w1 H1 vs l1 h1 r1 ⟨hn, q1⟩ => by
    have z := call_ok (C := C) (a.to l1 h1) (vl.mono l1) r1 hn q1
    rw [List.append_nil] at z
    exact z, h⟩
end
end Dl

namespace Dl
open PySem L2 PyProof.Rows

/-! ### statements -/
def dNext : DS := fun N _ ρ m => N.nx ρ m
def dSeq (t u : DS) : DS := fun N Ψ ρ m => t { N with nx := u N Ψ } Ψ ρ m
def dDrop (e : DE) : DS := fun N Ψ ρ m => e ρ m (fun _ m1 => N.nx ρ m1) (Ψ ρ)
def dRet (e : DE) : DS := fun N Ψ ρ m => e ρ m N.rt (Ψ ρ)
def dRetN : DS := fun N _ _ m => N.rt .non m
def dIf (c : DT) (t u : DS) : DS := fun N Ψ ρ m => c ρ m (fun b m1 => if b = true then t N Ψ ρ m1 else u N Ψ ρ m1) (Ψ ρ)
def dSet (i : Nat) (e : DE) : DS := fun N Ψ ρ m => e ρ m (fun d m1 => N.nx (ρ.set i (some d)) m1) (Ψ ρ)
/-- targets -/
abbrev DG := D → Env → MM → (Env → MM → Prop) → Prop
def dgName (i : Nat) : DG := fun d ρ m k => k (ρ.set i (some d)) m
def bindD : List Nat → List D → Env → Env
  | i :: is, d :: ds, ρ => bindD is ds (ρ.set i (some d))
  | _, _, ρ => ρ
def asT : D → Option (List D)
  | .tup ds => some ds
  | .rot ds => some ds
  | _ => none
def dgTup (is : List Nat) : DG := fun d ρ m k => match asT d with
  | some ds => ds.length = is.length ∧ k (bindD is ds ρ) m
  | none => False
def dAsg (e : DE) (g : DG) : DS := fun N Ψ ρ m => e ρ m (fun d m1 => g d ρ m1 N.nx) (Ψ ρ)
def dAug (i : Nat) (o : DO) (e : DE) : DS := fun N Ψ ρ m => match ρ[i]? with
  | some (some x) => e ρ m (fun y m1 => o x y m1 (fun z m2 => N.nx (ρ.set i (some z)) m2)) (Ψ ρ)
  | _ => False
/-- iteration -/
abbrev DI := Env → MM → (List D → MM → Prop) → XP → Prop
def forW (g : DG) (body : DS) (N : DN) (Ψ : XS) : List D → Env → MM → Prop
  | [], ρ, m => N.nx ρ m
  | d :: ds, ρ, m => g d ρ m fun ρ1 m1 => body { N with nx := forW g body N Ψ ds, ct := forW g body N Ψ ds, bk := N.nx } Ψ ρ1 m1
def dFor (it : DI) (g : DG) (body : DS) : DS := fun N Ψ ρ m => it ρ m (fun ds m1 => forW g body N Ψ ds ρ m1) (Ψ ρ)
def dWhile (c : DT) (body : DS) : DS := fun N Ψ ρ m => ∃ W : Nat → Env → MM → Prop, (∃ n, W n ρ m) ∧ ∀ n ρ m, W n ρ m →
  c ρ m (fun b m1 => if b = true then body { N with nx := fun ρ' m' => ∃ n', n' < n ∧ W n' ρ' m', ct := fun ρ' m' => ∃ n', n' < n ∧ W n' ρ' m', bk := N.nx } Ψ ρ m1 else N.nx ρ m1) (Ψ ρ)

section
variable {X : Cx} {E : WX} {a b c : Expr} {Wa Wb Wc : DE} {pos : Pos} {st : Stmt} {rest body : List Stmt} {t u : DS} {tc : DT}
theorem NLift.with {K : PySem.W.Frag} {w : Wd} {D : Ends} {N : DN} (h : NLift K w D N) {q : L2.St → Hp → Prop} {f : Env → MM → Prop} (s : SLift K w q f) : NLift K w { D with nx := q } { N with nx := f } := ⟨s, h.rt, h.bk, h.ct⟩
theorem jss_nil : JSs X E [] dNext := PSs.imp pss_nil fun D σ H ⟨w, ρ, m, Ψ, N, a, n, h⟩ => n.nx ρ m w H σ (.refl w) a.h a.s h
theorem jss_cons (h1 : JS X E st t) (h2 : JSs X E rest u) : JSs X E (st :: rest) (dSeq t u) := PSs.imp (pss_cons h1 h2) fun D σ H ⟨w, ρ, m, Ψ, N, a, n, h⟩ =>
  ⟨w, ρ, m, Ψ, { N with nx := u N Ψ }, a, n.with fun ρ' m' w' H' σ' l h' s' q => ⟨w', ρ', m', Ψ, N, ⟨h', s', a.x.mono l⟩, n.mono l, q⟩, h⟩
theorem jss_one (h1 : JS X E st t) : JSs X E [st] t := pss_one h1
theorem js_expr (he : JE X E a Wa) (hs : swapsWith a none pos.line X.env = pure false := by rfl) : JS X E (.Expr a pos) (dDrop Wa) := PS.imp (ps_expr he hs) fun D σ H ⟨w, ρ, m, Ψ, N, a, n, h⟩ =>
  ⟨w, ρ, m, Ψ ρ, _, a.at, fun d m1 w1 H1 v l1 h1 r1 q1 => n.nx ρ m1 w1 H1 σ l1 h1 (a.s.mono l1) q1, h⟩
theorem js_ret (he : JE X E a Wa) : JS X E (.Return (some a) pos) (dRet Wa) := PS.imp (ps_ret he) fun D σ H ⟨w, ρ, m, Ψ, N, a, n, h⟩ => ⟨w, ρ, m, Ψ ρ, _, a.at, n.rt, h⟩
theorem js_if {A B : List Stmt} (hc : JT X E c tc) (ha : JSs X E A t) (hb : JSs X E B u) : JS X E (.If c A B pos) (dIf tc t u) := PS.imp (ps_if hc ha hb) fun D σ H ⟨w, ρ, m, Ψ, N, a, n, h⟩ => by
  refine ⟨w, ρ, m, Ψ ρ, _, a.at, fun b m1 w1 H1 l1 h1 q1 => ?_, h⟩
  cases b with
  | true => exact ⟨w1, ρ, m1, Ψ, N, a.to l1 h1, n.mono l1, q1⟩
  | false => exact ⟨w1, ρ, m1, Ψ, N, a.to l1 h1, n.mono l1, q1⟩
theorem js_set (i : Nat) {x : Str} {pos' : Pos} (hN : X.N.Nodup) (hi : X.N[i]? = some x) (hx : Loc X.env.scope x) (he : JE X E a Wa) (hs : swapsWith a (some (.Name x pos')) pos.line X.env = pure false := by rfl)
    (hf : X.fn x = true ∨ X.env.scope.names.lookup x = some .local := by first | exact .inl rfl | exact .inr rfl | assumption) : JS X E (.Assign [.Name x pos'] a pos) (dSet i Wa) := PS.imp (ps_set hN hi hx he hs hf) fun D σ H ⟨w, ρ, m, Ψ, N, a, n, h⟩ =>
  ⟨w, ρ, m, Ψ ρ, _, a.at, fun d m1 w1 H1 v l1 h1 r1 q1 => n.nx _ m1 w1 H1 _ l1 h1 ((a.s.mono l1).set i r1) q1, h⟩

/-! targets -/
def liftG (K : PySem.W.Frag) (js : List Nat) (G : DG) : TG := fun v σ H Q => ∃ w ρ m d k, HRep K w m H ∧ Slots K w σ ρ ∧ Rep K w d v ∧ (∀ ρ' m' w' H' σ', w.le w' → HRep K w' m' H' → Slots K w' σ' ρ' → wipe σ' js = wipe σ js → k ρ' m' → Q σ' H') ∧ G d ρ m k
theorem PG.imp {e : Expr} {t t' : TG} (h : PG X e t) (i : ∀ v σ H Q, t' v σ H Q → t v σ H Q) : PG X e t' := ⟨fun pins s σ H x v Q I r q => h.run pins s σ H x v Q I r (i x σ H Q q)⟩
theorem wipe_get {σ : L2.St} {js : List Nat} {i : Nat} : (wipe σ js)[i]? = if i ∈ js ∧ i < σ.length then some none else σ[i]? := by
  induction js with
  | nil => simp [wipe]
  | cons j js ih =>
    show ((wipe σ js).set j none)[i]? = _
    by_cases h : j = i
    · subst h
      by_cases hl : j < σ.length
      · rw [List.getElem?_set_self (by rw [wipe_length]; exact hl), if_pos ⟨List.mem_cons_self, hl⟩]
      · rw [List.getElem?_eq_none (by rw [List.length_set, wipe_length]; omega), if_neg (fun z => hl z.2), List.getElem?_eq_none (by omega)]
    · rw [List.getElem?_set_ne h, ih]
      have e : (i ∈ j :: js ∧ i < σ.length) ↔ (i ∈ js ∧ i < σ.length) := by
        constructor
        · rintro ⟨z, q⟩
          rcases List.mem_cons.mp z with z | z
          · exact absurd z.symm h
          · exact ⟨z, q⟩
        · rintro ⟨z, q⟩; exact ⟨List.mem_cons_of_mem _ z, q⟩
      by_cases q : i ∈ js ∧ i < σ.length
      · rw [if_pos q, if_pos (e.mpr q)]
      · rw [if_neg q, if_neg (fun z => q (e.mp z))]
theorem wipe_set {σ : L2.St} {js : List Nat} {i : Nat} {v : Option V} (h : i ∈ js) : wipe (σ.set i v) js = wipe σ js := by
  apply List.ext_getElem?
  intro j
  rw [wipe_get, wipe_get, List.length_set]
  by_cases q : j ∈ js ∧ j < σ.length
  · rw [if_pos q, if_pos q]
  · rw [if_neg q, if_neg q]
    by_cases e : i = j
    · subst e
      have hl : ¬ i < σ.length := fun z => q ⟨h, z⟩
      rw [List.getElem?_eq_none (by rw [List.length_set]; omega), List.getElem?_eq_none (by omega)]
    · rw [List.getElem?_set_ne e]
theorem wipe_wipe {σ : L2.St} {js : List Nat} : wipe (wipe σ js) js = wipe σ js := by
  apply List.ext_getElem?
  intro j
  rw [wipe_get, wipe_get, wipe_length]
  by_cases q : j ∈ js ∧ j < σ.length
  · simp [q]
  · simp [q]
theorem jg_name (i : Nat) {x : Str} {pos : Pos} {js : List Nat} (hj : i ∈ js) (hN : X.N.Nodup) (hi : X.N[i]? = some x) (hx : Loc X.env.scope x) (hf : X.fn x = true ∨ X.env.scope.names.lookup x = some .local := by first | exact .inl rfl | exact .inr rfl | assumption) :
    PG X (.Name x pos) (liftG X.K js (dgName i)) := PG.imp (pg_name hN hi hx hf) fun v σ H Q ⟨w, ρ, m, d, k, h, s, r, n, q⟩ => n _ m w H _ (.refl w) h (s.set i r) (wipe_set hj) q
theorem asT_ok {K : PySem.W.Frag} {w : Wd} {m : MM} {H : Hp} {d : D} {ds : List D} {v : V} (h : HRep K w m H) (e : asT d = some ds) (r : Rep K w d v) : ∃ a xs, v = .ref a ∧ SqT K H a xs ∧ RepAll K w ds xs := by
  cases d with
  | tup es => cases e; obtain ⟨a, xs, e, q, r⟩ := r; exact ⟨a, xs, e, .inl (.inl (h.ext _ _ q)), r⟩
  | rot es => cases e; obtain ⟨a, xs, e, q, r⟩ := r; exact ⟨a, xs, e, sqt_mono h.ext q, r⟩
  | _ => cases e
theorem js_aug (i : Nat) {x : Str} {op : Operator} {r : R2} {o : DO} {pos' : Pos} (hN : X.N.Nodup) (hi : X.N[i]? = some x) (hx : Loc X.env.scope x) (he : JE X E a Wa) (ho : OpR X (inplaceOp op) r) (hl : OpL X.K r o)
    (hf : X.fn x = true ∨ X.env.scope.names.lookup x = some .local := by first | exact .inl rfl | exact .inr rfl | assumption) : JS X E (.AugAssign (.Name x pos') op a pos) (dAug i o Wa) :=
  PS.imp (ps_aug hN hi hx he (fun pins s σ H x y v u Q I rx ry q => ho pins s σ H x y v u Q I rx ry q) hf) fun D σ H ⟨w, ρ, m, Ψ, N, a, n, h⟩ => by
  unfold dAug at h
  split at h
  · rename_i d e
    obtain ⟨v, e1, r1⟩ := a.s.2 i d e
    refine ⟨v, e1, w, ρ, m, Ψ ρ, _, a.at, fun y m1 w1 H1 u l1 h1 r2 q1 => ?_, h⟩
    exact hl w1 m1 H1 d y v u _ _ h1 (Rep.mono l1 _ _ r1) r2 (fun z m2 w2 H2 zv l2 h2 r3 q2 => n.nx _ m2 w2 H2 _ (l1.trans l2) h2 ((a.s.mono (l1.trans l2)).set i r3) q2) q1
  · exact h.elim

/-! ### loops -/
theorem js_while {c : Expr} (hp : PassesOwn (model X.prog X.w) X.A X.env X.xe) (hc : JT X E c tc) (hb : JSs X E body t) : JS X E (.While c body [] pos) (dWhile tc t) := PS.imp (ps_while hp hc hb) fun D σ H ⟨w, ρ, m, Ψ, N, a, n, h⟩ => by
  obtain ⟨W, ⟨n0, w0⟩, hw⟩ := h
  refine ⟨fun k σ H => ∃ w' ρ m, w.le w' ∧ AtS X.K E w' σ H ρ m Ψ ∧ W k ρ m, ⟨n0, w, ρ, m, .refl w, a, w0⟩, ?_⟩
  rintro k σ1 H1 ⟨w1, ρ1, m1, l1, a1, q1⟩
  refine ⟨w1, ρ1, m1, Ψ ρ1, _, a1.at, fun b m2 w2 H2 l2 h2 q2 => ?_, hw k ρ1 m1 q1⟩
  have a2 := a1.to l2 h2
  cases b with
  | true =>
    show (if true = true then _ else _)
    rw [if_pos rfl]
    refine ⟨fun σ' H' => ∃ k', k' < k ∧ ∃ w' ρ m, w.le w' ∧ AtS X.K E w' σ' H' ρ m Ψ ∧ W k' ρ m, fun σ' H' z => z, w2, ρ1, m2, Ψ, _, a2, ?_, q2⟩
    have n2 := n.mono (l1.trans l2)
    have go : SLift X.K w2 (fun σ' H' => ∃ k', k' < k ∧ ∃ w' ρ m, w.le w' ∧ AtS X.K E w' σ' H' ρ m Ψ ∧ W k' ρ m) (fun ρ' m' => ∃ n', n' < k ∧ W n' ρ' m') := fun ρ' m' w' H' σ' l h' s' ⟨k', lt, q⟩ =>
      ⟨k', lt, w', ρ', m', (l1.trans l2).trans l, ⟨h', s', a2.x.mono l⟩, q⟩
    exact ⟨go, n2.rt, n2.nx, go⟩
  | false =>
    show (if false = true then _ else _)
    rw [if_neg Bool.false_ne_true]
    exact n.nx ρ1 m2 w2 H2 σ1 (l1.trans l2) h2 a2.s q2

/-- an iterator gives just these -/
structure Wlk (K : PySem.W.Frag) (w0 : Wd) (J : It) (ds : List D) : Prop where
  go : ∀ w m H (i : Nat) d, w0.le w → HRep K w m H → ds[i]? = some d → J.go i H
  stop : ∀ w m H, w0.le w → HRep K w m H → J.stop ds.length H
  yld : ∀ w m H (i : Nat) d x H', w0.le w → HRep K w m H → ds[i]? = some d → J.yld i H x H' → ∃ w', w.le w' ∧ HRep K w' m H' ∧ Rep K w' d x
def liftI (K : PySem.W.Frag) (E : WX) (W : DI) : TI := fun σ H R => ∃ w ρ m Ψ Φ, At K E w σ H ρ m Ψ ∧ (∀ ds m' w' H' J, w.le w' → HRep K w' m' H' → Wlk K w' J ds → Φ ds m' → R J H') ∧ W ρ m Φ Ψ
abbrev JI (X : Cx) (E : WX) (tg it : Expr) (W : DI) : Prop := PI X tg it (liftI X.K E W)
theorem PI.imp {tg e : Expr} {t t' : TI} (h : PI X tg e t) (i : ∀ σ H R, t' σ H R → t σ H R) : PI X tg e t' := ⟨fun pins s σ H R I q => h.run pins s σ H R I (i σ H R q)⟩
theorem js_for {tg iter : Expr} {wi : DI} {g : DG} {js : List Nat} (hp : PassesOwn (model X.prog X.w) X.A X.env X.xe) (hc : X.calm = true) (hi : JI X E tg iter wi) (hg : PG X tg (liftG X.K js g)) (hb : JSs X E body t)
    (hs : ∀ x, foldedSetIterable iter X.env x = pure x := by intro _; rfl) : JS X E (.For tg iter body [] pos) (dFor wi g t) := PS.imp (ps_for hp hc hi hg hb hs) fun D σ H ⟨w, ρ, m, Ψ, N, a, n, h⟩ => by
  refine ⟨w, ρ, m, Ψ ρ, _, a.at, fun ds m1 w1 H1 J l1 h1 wk q1 => ?_, h⟩
  refine ⟨fun i k σ H => k = ds.length - i ∧ i ≤ ds.length ∧ ∃ w' ρ m, w1.le w' ∧ AtS X.K E w' σ H ρ m Ψ ∧ forW g t N Ψ (ds.drop i) ρ m, ⟨ds.length, by omega, Nat.zero_le _, w1, ρ, m1, .refl w1, a.to l1 h1, q1⟩, ?_⟩
  rintro i k σ2 H2 ⟨rfl, hi, w2, ρ2, m2, l2, a2, q2⟩
  by_cases hlt : i < ds.length
  · have ed : ds[i]? = some ds[i] := List.getElem?_eq_getElem hlt
    have dr : ds.drop i = ds[i] :: ds.drop (i + 1) := List.drop_eq_getElem_cons hlt
    rw [dr] at q2
    refine .inr ⟨wk.go w2 m2 H2 i _ l2 a2.h ed, fun σ' H' => ∃ w' ρ m, w1.le w' ∧ AtS X.K E w' σ' H' ρ m Ψ ∧ forW g t N Ψ (ds.drop (i + 1)) ρ m, fun σ' H' z => ⟨ds.length - (i + 1), by omega, rfl, hlt, z⟩, fun x H3 y => ?_⟩
    obtain ⟨w3, l3, h3, r3⟩ := wk.yld w2 m2 H2 i _ x H3 l2 a2.h ed y
    refine ⟨w3, ρ2, m2, ds[i], _, h3, a2.s.mono l3, r3, fun ρ' m' w' H' σ' l h' s' _ q => ?_, q2⟩
    have l4 := l2.trans (l3.trans l)
    refine ⟨w', ρ', m', Ψ, _, ⟨h', s', a2.x.mono (l3.trans l)⟩, ?_, q⟩
    have n2 := n.mono (l1.trans l4)
    have go : SLift X.K w' (fun σ' H' => ∃ w' ρ m, w1.le w' ∧ AtS X.K E w' σ' H' ρ m Ψ ∧ forW g t N Ψ (ds.drop (i + 1)) ρ m) (forW g t N Ψ (ds.drop (i + 1))) := fun ρ5 m5 w5 H5 σ5 l5 h5 s5 q5 =>
      ⟨w5, ρ5, m5, l4.trans l5, ⟨h5, s5, a2.x.mono ((l3.trans l).trans l5)⟩, q5⟩
    exact ⟨go, n2.rt, n2.nx, go⟩
  · have e : i = ds.length := by omega
    subst e
    rw [List.drop_length] at q2
    exact .inl ⟨wk.stop w2 m2 H2 l2 a2.h, n.nx ρ2 m2 w2 H2 σ2 (l1.trans l2) a2.h a2.s q2⟩

/-! iterators -/
def moL : Option MO → Option (List D)
  | some (.lst ds) => some ds
  | _ => none
theorem moL_eq {o : Option MO} {ds : List D} (h : moL o = some ds) : o = some (.lst ds) := by
  cases o with
  | none => cases h
  | some o =>
    cases o with
    | lst es => cases h; rfl
    | _ => cases h
def asL (m : MM) : D → Option (List D)
  | .lst ds => some ds
  | .rol ds => some ds
  | .hnd k => moL m.M[k]?
  | _ => none
def asF : D → Option (List D)
  | .lst ds => some ds
  | .rol ds => some ds
  | _ => none
theorem asL_ok {K : PySem.W.Frag} {w : Wd} {m : MM} {H : Hp} {d : D} {ds : List D} {v : V} (h : HRep K w m H) (e : asL m d = some ds) (r : Rep K w d v) : ∃ a xs, v = .ref a ∧ SqL K H a xs ∧ RepAll K w ds xs := by
  cases d with
  | lst es => cases e; obtain ⟨a, xs, e, q, r⟩ := r; exact ⟨a, xs, e, .inl (.inl (h.ext _ _ q)), r⟩
  | rol es => cases e; obtain ⟨a, xs, e, q, r⟩ := r; exact ⟨a, xs, e, sql_mono h.ext q, r⟩
  | hnd k =>
    have q := moL_eq e
    obtain ⟨a, e, q2⟩ := r
    obtain ⟨xs, hx, rr⟩ := h.obj k a _ q2 q
    exact ⟨a, xs, e, .inl (.inl hx), rr⟩
  | _ => cases e
theorem asF_ok {K : PySem.W.Frag} {w : Wd} {d : D} {ds : List D} {v : V} (e : asF d = some ds) (r : Rep K w d v) : ∃ a xs, v = .ref a ∧ SqL K w.F a xs ∧ RepAll K w ds xs := by
  cases d with
  | lst es => cases e; obtain ⟨a, xs, e, q, r⟩ := r; exact ⟨a, xs, e, .inl (.inl q), r⟩
  | rol es => cases e; obtain ⟨a, xs, e, q, r⟩ := r; exact ⟨a, xs, e, q, r⟩
  | _ => cases e
def diList (e : DE) : DI := fun ρ m Φ Ψ => e ρ m (fun d m1 => match asF d with
  | some ds => Φ ds m1
  | none => False) Ψ
theorem wlk_list {K : PySem.W.Frag} {w : Wd} {a : Addr} {xs : List V} {ds : List D} (q : SqL K w.F a xs) (r : RepAll K w ds xs) : Wlk K w (Itl K a) ds where
  go := fun w1 m H i d l h e => by
    obtain ⟨v, e1, _⟩ := r.get e
    exact ⟨xs, v, sql_mono (fun a o z => h.ext a o (l.F a o z)) q, e1⟩
  stop := fun w1 m H l h => ⟨xs, sql_mono (fun a o z => h.ext a o (l.F a o z)) q, Nat.le_of_eq r.length⟩
  yld := fun w1 m H i d x H' l h e y => by
    obtain ⟨rfl, y⟩ := y
    obtain ⟨v, e1, rv⟩ := r.get e
    have z := y xs (sql_mono (fun a o z => h.ext a o (l.F a o z)) q)
    rw [e1] at z; cases z
    exact ⟨w1, .refl w1, h, Rep.mono l _ _ rv⟩
theorem ji_list {tg : Expr} (h : JE X E a Wa) : JI X E tg a (diList Wa) := PI.imp (pi_list h) fun σ H R ⟨w, ρ, m, Ψ, Φ, a, n, h⟩ => by
  refine ⟨w, ρ, m, Ψ, _, a, fun d m1 w1 H1 v l1 h1 r1 q1 => ?_, h⟩
  split at q1
  · rename_i ds e
    obtain ⟨a, xs, rfl, q, r⟩ := asF_ok e r1
    exact ⟨a, rfl, ⟨xs, sql_mono h1.ext q⟩, n ds m1 w1 H1 _ l1 h1 (wlk_list q r) q1⟩
  · exact q1.elim
def rngD (lo : Int) (n : Nat) : List D := (List.range n).map fun i => D.int (lo + (i : Nat))
theorem wlk_range {K : PySem.W.Frag} {w : Wd} {lo : Int} {n : Nat} : Wlk K w (Itr lo n) (rngD lo n) where
  go := fun w1 m H i d l h e => by
    have z := (List.getElem?_eq_some_iff.mp e).1
    show i < n
    simpa [rngD] using z
  stop := fun w1 m H l h => by show n ≤ (rngD lo n).length; simp [rngD]
  yld := fun w1 m H i d x H' l h e y => by
    obtain ⟨rfl, rfl⟩ := y
    have e' : d = D.int (lo + (i : Nat)) := by
      unfold rngD at e
      rw [List.getElem?_map] at e
      cases q : (List.range n)[i]? with
      | none => rw [q] at e; cases e
      | some j =>
        rw [q] at e
        have hj : j = i := by
          have := (List.getElem?_eq_some_iff.mp q).2
          simpa using this.symm
        subst hj
        exact (Option.some.inj e).symm
    subst e'
    exact ⟨w1, .refl w1, h, rfl⟩
def diRng1 (r : DA) : DI := fun ρ m Φ Ψ => r ρ m (fun ds m1 => match ds with
  | [.int j] => (-(2 ^ 62) ≤ j ∧ j < 2 ^ 62) ∧ Φ (rngD 0 j.toNat) m1
  | _ => False) Ψ
def diRng2 (r : DA) : DI := fun ρ m Φ Ψ => r ρ m (fun ds m1 => match ds with
  | [.int i, .int j] => (-(2 ^ 62) ≤ i ∧ i < 2 ^ 62 ∧ -(2 ^ 62) ≤ j ∧ j < 2 ^ 62) ∧ Φ (rngD i (j - i).toNat) m1
  | _ => False) Ψ
theorem rep1 {K : PySem.W.Frag} {w : Wd} {d : D} {vs : List V} (r : RepAll K w [d] vs) : ∃ v, vs = [v] ∧ Rep K w d v := by
  obtain ⟨v, r', rfl, a, b⟩ := r
  have e : r' = [] := b
  subst e; exact ⟨v, rfl, a⟩
theorem rep2 {K : PySem.W.Frag} {w : Wd} {d e : D} {vs : List V} (r : RepAll K w [d, e] vs) : ∃ v u, vs = [v, u] ∧ Rep K w d v ∧ Rep K w e u := by
  obtain ⟨v, r', rfl, a, b⟩ := r
  obtain ⟨u, rfl, c⟩ := rep1 b
  exact ⟨v, u, rfl, a, c⟩
theorem ji_range1 {tg : Expr} {Ws : DA} {p : Pos} (hg : Gl X "range") (hm : X.mg "range" = none) (ha : JA X E [a] Ws) (hs : starEach [a] X.env = [(false, eval a X.env)] := by rfl) : JI X E tg (.Call (.Name "range" p) [a] [] pos) (diRng1 Ws) :=
  PI.imp (pi_range1 hg hm ha hs) fun σ H R ⟨w, ρ, m, Ψ, Φ, a, n, h⟩ => by
  refine ⟨w, ρ, m, Ψ, _, a, fun ds m1 w1 H1 vs l1 h1 r1 q1 => ?_, h⟩
  split at q1
  · obtain ⟨v, rfl, rv⟩ := rep1 r1
    have e : v = .int _ := rv
    subst e
    exact ⟨_, rfl, q1.1.1, q1.1.2, n _ m1 w1 H1 _ l1 h1 wlk_range q1.2⟩
  · exact q1.elim
end
end Dl

namespace Dl
open PySem L2 PyProof.Rows

theorem VLift.int {K : PySem.W.Frag} {w : Wd} {m : MM} {H : Hp} {Q : VK} {Φ : D → MM → Prop} {i : Int} (vl : VLift K w Q Φ) (h : HRep K w m H) (q : Φ (.int i) m) : Q (.int i) H := vl (.int i) m w H _ (.refl w) h rfl q
theorem VLift.bl {K : PySem.W.Frag} {w : Wd} {m : MM} {H : Hp} {Q : VK} {Φ : D → MM → Prop} {i : Bool} (vl : VLift K w Q Φ) (h : HRep K w m H) (q : Φ (.bl i) m) : Q (.bl i) H := vl (.bl i) m w H _ (.refl w) h rfl q
theorem VLift.str {K : PySem.W.Frag} {w : Wd} {m : MM} {H : Hp} {Q : VK} {Φ : D → MM → Prop} {i : Str} (vl : VLift K w Q Φ) (h : HRep K w m H) (q : Φ (.str i) m) : Q (.str i) H := vl (.str i) m w H _ (.refl w) h rfl q
theorem VLift.non {K : PySem.W.Frag} {w : Wd} {m : MM} {H : Hp} {Q : VK} {Φ : D → MM → Prop} (vl : VLift K w Q Φ) (h : HRep K w m H) (q : Φ .non m) : Q .non H := vl .non m w H _ (.refl w) h rfl q
theorem VLift.newL {K : PySem.W.Frag} {w : Wd} {m : MM} {H : Hp} {Q : VK} {Φ : D → MM → Prop} {ds : List D} {xs : List V} {p : Addr} (vl : VLift K w Q Φ) (h : HRep K w m H) (hp : H p = none) (r : RepAll K w ds xs) (q : Φ (.lst ds) m) : Q (.ref p) (upd H p (.lst xs)) :=
  vl _ m _ _ _ (Wd.le_put (h.nof hp)) (h.put hp) (rep_put_lst h hp r) q
theorem VLift.newM {K : PySem.W.Frag} {w : Wd} {m : MM} {H : Hp} {Q : VK} {Φ : D → MM → Prop} {ds : List D} {xs : List V} {p : Addr} (vl : VLift K w Q Φ) (h : HRep K w m H) (hp : H p = none) (r : RepAll K w ds xs) (q : Φ (.hnd m.M.length) (m.push (.lst ds))) : Q (.ref p) (upd H p (.lst xs)) :=
  vl _ _ _ _ _ Wd.le_add (h.add (o := .lst ds) hp ⟨xs, upd_same, RepAll.mono Wd.le_add _ _ r⟩) (rep_add h) q
/-! ### operations -/
def oI (C : Int → Int → Prop) (g : Int → Int → Int) : DO := fun x y m Φ => match x, y with
  | .int i, .int j => C i j ∧ Φ (.int (g i j)) m
  | _, _ => False
def oI0 (g : Int → Int → Int) : DO := fun x y m Φ => match x, y with
  | .int i, .int j => Φ (.int (g i j)) m
  | _, _ => False
def oB0 (g : Int → Int → Bool) : DO := fun x y m Φ => match x, y with
  | .int i, .int j => Φ (.bl (g i j)) m
  | _, _ => False
theorem opl_I {K : PySem.W.Frag} {C C' : Int → Int → Prop} {g : Int → Int → Int} (hC : ∀ i j, C i j → C' i j) : OpL K (rI C' fun i j => .int (g i j)) (oI C g) := fun w m H x y u v Q Φ h r1 r2 vl q => by
  cases x with
  | int i =>
    cases y with
    | int j => exact ⟨i, j, r1, r2, hC _ _ q.1, vl.int h q.2⟩
    | _ => exact False.elim q
  | _ => exact False.elim q
theorem opl_I0 {K : PySem.W.Frag} {g : Int → Int → Int} : OpL K (rI0 fun i j => .int (g i j)) (oI0 g) := fun w m H x y u v Q Φ h r1 r2 vl q => by
  cases x with
  | int i =>
    cases y with
    | int j => exact ⟨i, j, r1, r2, vl.int h q⟩
    | _ => exact False.elim q
  | _ => exact False.elim q
theorem opl_B0 {K : PySem.W.Frag} {g : Int → Int → Bool} : OpL K (rI0 fun i j => .bl (g i j)) (oB0 g) := fun w m H x y u v Q Φ h r1 r2 vl q => by
  cases x with
  | int i =>
    cases y with
    | int j => exact ⟨i, j, r1, r2, vl.bl h q⟩
    | _ => exact False.elim q
  | _ => exact False.elim q
/-- a product: one factor below 2 ^ 64, or both below 2 ^ 400000 -/
def MulC (i j : Int) : Prop := (-(2 ^ 64) < i ∧ i < 2 ^ 64) ∨ (-(2 ^ 64) < j ∧ j < 2 ^ 64) ∨ CMulW i j
theorem op_mulC {X : Cx} : OpR X (binaryOp .Mult) (rI MulC fun i j => .int (i * j)) := fun pins s σ H x y v u Q I rx ry h => by
  obtain ⟨i, j, e1, e2, hc, q⟩ := h
  rcases hc with hc | hc | hc
  · exact op_mul pins s σ H x y v u Q I rx ry ⟨i, j, e1, e2, .inl hc, q⟩
  · exact op_mul pins s σ H x y v u Q I rx ry ⟨i, j, e1, e2, .inr hc, q⟩
  · exact op_mulW pins s σ H x y v u Q I rx ry ⟨i, j, e1, e2, hc, q⟩
def DivC (_ j : Int) : Prop := 0 < j ∧ j < 2 ^ 64
theorem divC_ok {i j : Int} (h : DivC i j) : CDivW i j := wide_div h.1 (b := 64) (by have := h.1; have := h.2; omega) (by decide) (by decide)
def ModC (_ j : Int) : Prop := 0 < j
/-- tracked lists -/
def asK (m : MM) : D → Option (List D)
  | .lst ds => some ds
  | .hnd k => moL m.M[k]?
  | _ => none
theorem asK_ok {K : PySem.W.Frag} {w : Wd} {m : MM} {H : Hp} {d : D} {ds : List D} {v : V} (h : HRep K w m H) (e : asK m d = some ds) (r : Rep K w d v) : ∃ a xs, v = .ref a ∧ H a = some (.lst xs) ∧ RepAll K w ds xs := by
  cases d with
  | lst es => cases e; obtain ⟨a, xs, e, q, r⟩ := r; exact ⟨a, xs, e, h.ext _ _ q, r⟩
  | hnd k =>
    have q := moL_eq e
    obtain ⟨a, e, q2⟩ := r
    obtain ⟨xs, hx, rr⟩ := h.obj k a _ q2 q
    exact ⟨a, xs, e, hx, rr⟩
  | _ => cases e
def rStrA : R2 := fun x y H Q => ∃ i j, x = .str i ∧ y = .str j ∧ i.length + j.length ≤ sizeLine ∧ Q (.str (i ++ j)) H
def rAddAll (K : PySem.W.Frag) : R2 := fun x y H Q => (rI0 fun i j => .int (i + j)) x y H Q ∨ rStrA x y H Q ∨ rCat x y H Q ∨ rCatT K x y H Q
theorem op_addAll {X : Cx} : OpR X (binaryOp .Add) (rAddAll X.K) := op_add.or (op_add_str.or (op_cat.or op_catT))
def oAdd : DO := fun x y m Φ => match x, y with
  | .int i, .int j => Φ (.int (i + j)) m
  | .str i, .str j => i.length + j.length ≤ LIM ∧ Φ (.str (i ++ j)) m
  | .tup xs, .tup ys => xs ≠ [] ∧ ys ≠ [] ∧ xs.length + ys.length ≤ LIM ∧ Φ (.tup (xs ++ ys)) m
  | .lst xs, .lst ys => xs.length + ys.length ≤ LIM ∧ Φ (.lst (xs ++ ys)) m
  | x, y => match asK m x, asK m y with
    | some xs, some ys => xs.length + ys.length ≤ LIM ∧ Φ (.lst (xs ++ ys)) m
    | _, _ => False
theorem cat_ok {K : PySem.W.Frag} {w : Wd} {m : MM} {H : Hp} {x y : D} {xs ys : List D} {u v : V} {Q : VK} {Φ : D → MM → Prop} (h : HRep K w m H) (e1 : asK m x = some xs) (e2 : asK m y = some ys) (r1 : Rep K w x u) (r2 : Rep K w y v) (vl : VLift K w Q Φ)
    (z : xs.length + ys.length ≤ LIM) (q : Φ (.lst (xs ++ ys)) m) : rCat u v H Q := by
  obtain ⟨a, us, rfl, ha, ra⟩ := asK_ok h e1 r1
  obtain ⟨b, vs, rfl, hb, rb⟩ := asK_ok h e2 r2
  refine ⟨a, b, us, vs, rfl, rfl, ha, hb, lim_sz (by rw [ra.length, rb.length]; exact z), fun p hp => ?_⟩
  exact vl _ m _ _ _ (Wd.le_put (h.nof hp)) (h.put hp) (rep_put_lst h hp (ra.append rb)) q
theorem opl_add {K : PySem.W.Frag} : OpL K (rAddAll K) oAdd := fun w m H x y u v Q Φ h r1 r2 vl q => by
  unfold oAdd at q
  split at q
  · exact .inl ⟨_, _, r1, r2, vl.int h q⟩
  · exact .inr (.inl ⟨_, _, r1, r2, lim_sz q.1, vl.str h q.2⟩)
  · obtain ⟨a, us, rfl, ha, ra⟩ := r1
    obtain ⟨b, vs, rfl, hb, rb⟩ := r2
    obtain ⟨q1, q2, q3, q4⟩ := q
    have n1 : us ≠ [] := fun z => by subst z; have := ra.length; exact q1 (List.length_eq_zero_iff.mp this.symm)
    have n2 : vs ≠ [] := fun z => by subst z; have := rb.length; exact q2 (List.length_eq_zero_iff.mp this.symm)
    refine .inr (.inr (.inr ⟨a, b, us, vs, rfl, rfl, .inl (.inl (h.ext _ _ ha)), .inl (.inl (h.ext _ _ hb)), n1, lim_sz (by rw [ra.length, rb.length]; exact q3), fun z => absurd z n2, fun _ p hp => ?_⟩))
    exact vl _ m _ _ _ (Wd.le_put (h.nof hp)) (h.put hp) (rep_put_tup h hp (ra.append rb)) q4
  · exact .inr (.inr (.inl (cat_ok h (x := .lst _) (y := .lst _) rfl rfl r1 r2 vl q.1 q.2)))
  · split at q
    · rename_i e1 e2
      exact .inr (.inr (.inl (cat_ok h e1 e2 r1 r2 vl q.1 q.2)))
    · exact q.elim

/-! equality -/
mutual
def toPy : D → PyData
  | .bl b => .bool b
  | .int i => .int i
  | .str x => .str x
  | .lst ds => .list (toPys ds)
  | .rol ds => .list (toPys ds)
  | .tup ds => .tuple (toPys ds)
  | .rot ds => .tuple (toPys ds)
  | _ => .none
def toPys : List D → List PyData
  | [] => []
  | d :: ds => toPy d :: toPys ds
end
mutual
def okE (n : Nat) : D → Bool
  | .non => true
  | .bl _ => true
  | .int _ => true
  | .str x => PyData.strOk x
  | .lst ds => decide (0 < n) && okEs (n - 1) ds
  | .rol ds => decide (0 < n) && okEs (n - 1) ds
  | .tup ds => decide (0 < n) && okEs (n - 1) ds
  | .rot ds => decide (0 < n) && okEs (n - 1) ds
  | _ => false
def okEs (n : Nat) : List D → Bool
  | [] => true
  | d :: ds => okE n d && okEs n ds
end

section
variable {K : PySem.W.Frag} {w : Wd} {m : MM} {H : Hp}
mutual
theorem dp_of (h : HRep K w m H) : ∀ (d : D) (v : V) (n : Nat), Rep K w d v → okE n d = true → Dp K H v (toPy d)
  | .non, _, _, r, _ => by cases (show _ = V.non from r); exact .non
  | .bl b, _, _, r, _ => by cases (show _ = V.bl b from r); exact .bl b
  | .int i, _, _, r, _ => by cases (show _ = V.int i from r); exact .int i
  | .str x, _, _, r, _ => by cases (show _ = V.str x from r); exact .str x
  | .lst ds, _, n, ⟨a, xs, e, q, r⟩, o => by
    subst e
    have o : (decide (0 < n) && okEs (n - 1) ds) = true := o
    rw [Bool.and_eq_true] at o
    exact .lst (.inl (.inl (h.ext _ _ q))) (dps_of h ds xs (n - 1) r o.2)
  | .rol ds, _, n, ⟨a, xs, e, q, r⟩, o => by
    subst e
    have o : (decide (0 < n) && okEs (n - 1) ds) = true := o
    rw [Bool.and_eq_true] at o
    exact .lst (sql_mono h.ext q) (dps_of h ds xs (n - 1) r o.2)
  | .tup ds, _, n, ⟨a, xs, e, q, r⟩, o => by
    subst e
    have o : (decide (0 < n) && okEs (n - 1) ds) = true := o
    rw [Bool.and_eq_true] at o
    exact .tup (.inl (.inl (h.ext _ _ q))) (dps_of h ds xs (n - 1) r o.2)
  | .rot ds, _, n, ⟨a, xs, e, q, r⟩, o => by
    subst e
    have o : (decide (0 < n) && okEs (n - 1) ds) = true := o
    rw [Bool.and_eq_true] at o
    exact .tup (sqt_mono h.ext q) (dps_of h ds xs (n - 1) r o.2)
  | .ty _, _, _, _, o => nomatch o
  | .cls _, _, _, _, o => nomatch o
  | .hnd _, _, _, _, o => nomatch o
  | .st _, _, _, _, o => nomatch o
  | .exc _ _ _ _, _, _, _, o => nomatch o
theorem dps_of (h : HRep K w m H) : ∀ (ds : List D) (vs : List V) (n : Nat), RepAll K w ds vs → okEs n ds = true → DpAll K H vs (toPys ds)
  | [], _, _, r, _ => by cases (show _ = [] from r); exact .nil
  | d :: ds, _, n, ⟨v, r', e, a, b⟩, o => by
    subst e
    have o : (okE n d && okEs n ds) = true := o
    rw [Bool.and_eq_true] at o
    exact .cons (dp_of h d v n a o.1) (dps_of h ds r' n b o.2)
end
mutual
theorem okE_lay : ∀ (d : D) (n : Nat), okE n d = true → (toPy d).canLay0 = true ∧ (toPy d).depth ≤ n
  | .non, _, _ => ⟨rfl, Nat.zero_le _⟩
  | .bl b, _, _ => ⟨rfl, Nat.zero_le _⟩
  | .int i, _, _ => ⟨rfl, Nat.zero_le _⟩
  | .str x, _, o => ⟨o, Nat.zero_le _⟩
  | .lst ds, n, o => by
    have o : (decide (0 < n) && okEs (n - 1) ds) = true := o
    rw [Bool.and_eq_true] at o
    obtain ⟨h1, h2⟩ := okEs_lay ds (n - 1) o.2
    have h0 := of_decide_eq_true o.1
    exact ⟨h1, by show PyData.depthAll (toPys ds) + 1 ≤ n; omega⟩
  | .rol ds, n, o => by
    have o : (decide (0 < n) && okEs (n - 1) ds) = true := o
    rw [Bool.and_eq_true] at o
    obtain ⟨h1, h2⟩ := okEs_lay ds (n - 1) o.2
    have h0 := of_decide_eq_true o.1
    exact ⟨h1, by show PyData.depthAll (toPys ds) + 1 ≤ n; omega⟩
  | .tup ds, n, o => by
    have o : (decide (0 < n) && okEs (n - 1) ds) = true := o
    rw [Bool.and_eq_true] at o
    obtain ⟨h1, h2⟩ := okEs_lay ds (n - 1) o.2
    have h0 := of_decide_eq_true o.1
    exact ⟨h1, by show PyData.depthAll (toPys ds) + 1 ≤ n; omega⟩
  | .rot ds, n, o => by
    have o : (decide (0 < n) && okEs (n - 1) ds) = true := o
    rw [Bool.and_eq_true] at o
    obtain ⟨h1, h2⟩ := okEs_lay ds (n - 1) o.2
    have h0 := of_decide_eq_true o.1
    exact ⟨h1, by show PyData.depthAll (toPys ds) + 1 ≤ n; omega⟩
  | .ty _, _, o => nomatch o
  | .cls _, _, o => nomatch o
  | .hnd _, _, o => nomatch o
  | .st _, _, o => nomatch o
  | .exc _ _ _ _, _, o => nomatch o
theorem okEs_lay : ∀ (ds : List D) (n : Nat), okEs n ds = true → PyData.canLayAll0 (toPys ds) = true ∧ PyData.depthAll (toPys ds) ≤ n
  | [], _, _ => ⟨rfl, Nat.zero_le _⟩
  | d :: ds, n, o => by
    have o : (okE n d && okEs n ds) = true := o
    rw [Bool.and_eq_true] at o
    obtain ⟨h1, h2⟩ := okE_lay d n o.1
    obtain ⟨h3, h4⟩ := okEs_lay ds n o.2
    refine ⟨?_, ?_⟩
    · show (PyData.canLay0 (toPy d) && PyData.canLayAll0 (toPys ds)) = true
      rw [h1, h3]; rfl
    · show max (PyData.depth (toPy d)) (PyData.depthAll (toPys ds)) ≤ n
      omega
end
theorem okE_shaped {d : D} (o : okE 64 d = true) : SeqAt.shaped (toPy d) = true := by
  obtain ⟨h1, h2⟩ := okE_lay d 64 o
  unfold SeqAt.shaped
  rw [h1, decide_eq_true h2]; rfl
end
/-- == of data -/
def eqD (x y : D) : Bool := PyData.eqv (toPy x) (toPy y)
def oEq : DO := fun x y m Φ => okE 64 x = true ∧ okE 64 y = true ∧ Φ (.bl (eqD x y)) m
def oNe : DO := fun x y m Φ => okE 64 x = true ∧ okE 64 y = true ∧ Φ (.bl (!eqD x y)) m
theorem opl_eq {K : PySem.W.Frag} : OpL K (rEqD K) oEq := fun w m H x y u v Q Φ h r1 r2 vl ⟨o1, o2, q⟩ => ⟨_, _, dp_of h x u 64 r1 o1, dp_of h y v 64 r2 o2, okE_shaped o1, okE_shaped o2, vl.bl h q⟩
theorem opl_ne {K : PySem.W.Frag} : OpL K (rNeD K) oNe := fun w m H x y u v Q Φ h r1 r2 vl ⟨o1, o2, q⟩ => ⟨_, _, dp_of h x u 64 r1 o1, dp_of h y v 64 r2 o2, okE_shaped o1, okE_shaped o2, vl.bl h q⟩
theorem eqD_int {i j : Int} : eqD (.int i) (.int j) = decide (i = j) := by
  show (i == j) = _
  rw [Bool.beq_eq_decide_eq]
theorem eqD_bl {i j : Bool} : eqD (.bl i) (.bl j) = decide (i = j) := by
  show (i == j) = _
  rw [Bool.beq_eq_decide_eq]
theorem eqs_ints : ∀ {xs ys : List Int}, PyData.eqvAll (toPys (xs.map D.int)) (toPys (ys.map D.int)) = decide (xs = ys)
  | [], [] => rfl
  | [], y :: ys => by
    show false = _
    simp
  | x :: xs, [] => by
    show false = _
    simp
  | x :: xs, y :: ys => by
    show ((x == y) && PyData.eqvAll (toPys (xs.map D.int)) (toPys (ys.map D.int))) = _
    rw [eqs_ints, Bool.beq_eq_decide_eq]
    simp
theorem eqD_ints {xs ys : List Int} : eqD (.lst (xs.map D.int)) (.lst (ys.map D.int)) = decide (xs = ys) := eqs_ints
theorem okEs_ints {n : Nat} : ∀ {xs : List Int}, okEs n (xs.map D.int) = true
  | [] => rfl
  | x :: xs => by
    show (true && okEs n (xs.map D.int)) = true
    rw [okEs_ints]; rfl
theorem okE_ints {n : Nat} {xs : List Int} : okE (n + 1) (.lst (xs.map D.int)) = true := by
  show (decide (0 < n + 1) && okEs (n + 1 - 1) (xs.map D.int)) = true
  rw [okEs_ints]; simp
/-- is None -/
def isNon : D → Option Bool
  | .non => some true
  | .bl _ => some false
  | .int _ => some false
  | .str _ => some false
  | .lst _ => some false
  | .tup _ => some false
  | .rol _ => some false
  | .rot _ => some false
  | .hnd _ => some false
  | _ => none
def oIsN : DO := fun x y m Φ => match isNon x, y with
  | some b, .non => Φ (.bl b) m
  | _, _ => False
def oNotN : DO := fun x y m Φ => match isNon x, y with
  | some b, .non => Φ (.bl (!b)) m
  | _, _ => False
/-! subscripts -/
def oIx : DO := fun x y m Φ => match x, y with
  | .str z, .int i => z.length ≤ LIM ∧ ∃ c, atI z.cps.toList i = some c ∧ Φ (.str ⟨#[c]⟩) m
  | x, .int i => match asL m x with
    | some ds => ∃ d, atI ds i = some d ∧ Φ d m
    | none => match asT x with
      | some ds => ∃ d, atI ds i = some d ∧ Φ d m
      | none => False
  | _, _ => False
theorem atI_rep {K : PySem.W.Frag} {w : Wd} {ds : List D} {vs : List V} {i : Int} {d : D} (r : RepAll K w ds vs) (e : atI ds i = some d) : ∃ v, atI vs i = some v ∧ Rep K w d v := by
  unfold atI at e ⊢
  rw [r.length]
  cases q : ixN ds.length i with
  | none => rw [q] at e; cases e
  | some j => rw [q] at e; exact r.get e
theorem opl_ix {K : PySem.W.Frag} : OpL K (rIx K) oIx := fun w m H x y u v Q Φ h r1 r2 vl q => by
  unfold oIx at q
  split at q
  · obtain ⟨z, c, e, q⟩ := q
    exact .inr (.inr ⟨_, _, c, r1, r2, lim_sz z, e, vl.str h q⟩)
  · split at q
    · rename_i e
      obtain ⟨d, e2, q⟩ := q
      obtain ⟨a, us, rfl, ha, ra⟩ := asL_ok h e r1
      obtain ⟨v', e3, rd⟩ := atI_rep ra e2
      exact .inl ⟨a, us, _, v', rfl, r2, ha, e3, vl d m w H v' (.refl w) h rd q⟩
    · split at q
      · rename_i e
        obtain ⟨d, e2, q⟩ := q
        obtain ⟨a, us, rfl, ha, ra⟩ := asT_ok h e r1
        obtain ⟨v', e3, rd⟩ := atI_rep ra e2
        exact .inr (.inl ⟨a, us, _, v', rfl, r2, ha, e3, vl d m w H v' (.refl w) h rd q⟩)
      · exact q.elim
  · exact q.elim
section
variable {X : Cx} {E : WX} {a b c : Expr} {Wa Wb Wc : DE} {pos : Pos}
theorem je_ix (ha : JE X E a Wa) (hb : JE X E b Wb) (hs : PlainIx b := by exact fun _ _ => rfl) : JE X E (.Subscript a b pos) (dOp oIx Wa Wb) := PE.imp (pe_ix ix_seq ha hb hs) fun _ _ _ h => dOp_ok opl_ix h
/-- xs[lo:hi] -/
abbrev DPt := Env → MM → (Option Int → MM → Prop) → XP → Prop
def liftO (K : PySem.W.Frag) (E : WX) (W : DPt) : TO := fun σ H Q => ∃ w ρ m Ψ Φ, At K E w σ H ρ m Ψ ∧ (∀ o m' w' H', w.le w' → HRep K w' m' H' → Φ o m' → Q o H') ∧ W ρ m Φ Ψ
abbrev JO (X : Cx) (E : WX) (e : Option Expr) (W : DPt) : Prop := PO X e (liftO X.K E W)
theorem PO.imp {e : Option Expr} {t t' : TO} (h : PO X e t) (i : ∀ σ H Q, t' σ H Q → t σ H Q) : PO X e t' := ⟨fun pins s σ H Q I q => h.run pins s σ H Q I (i σ H Q q)⟩
def dpN : DPt := fun _ m Φ _ => Φ none m
def dpS (e : DE) : DPt := fun ρ m Φ Ψ => e ρ m (fun d m1 => match d with
  | .int i => Φ (some i) m1
  | _ => False) Ψ
theorem jo_none : JO X E none dpN := PO.imp po_none fun σ H Q ⟨w, ρ, m, Ψ, Φ, a, n, h⟩ => n none m w H (.refl w) a.h h
theorem jo_some (h : JE X E a Wa) : JO X E (some a) (dpS Wa) := PO.imp (po_some h) fun σ H Q ⟨w, ρ, m, Ψ, Φ, a, n, h⟩ => by
  refine ⟨w, ρ, m, Ψ, _, a, fun d m1 w1 H1 v l1 h1 r1 q1 => ?_, h⟩
  cases d with
  | int i => exact ⟨i, r1, n (some i) m1 w1 H1 l1 h1 q1⟩
  | _ => exact False.elim q1
def cutD (xs : List D) (lo hi : Option Int) : List D := (xs.drop (HT.sIx xs.length 0 lo)).take (HT.sIx xs.length xs.length hi - HT.sIx xs.length 0 lo)
theorem cut_rep {K : PySem.W.Frag} {w : Wd} {ds : List D} {vs : List V} (r : RepAll K w ds vs) (lo hi : Option Int) : RepAll K w (cutD ds lo hi) (cutV vs lo hi) := by
  unfold cutD cutV
  rw [r.length]
  exact (r.drop _).take _
def dSl (a : DE) (lo hi : DPt) : DE := fun ρ m Φ Ψ => a ρ m (fun d m1 => lo ρ m1 (fun l m2 => hi ρ m2 (fun u m3 => match asL m3 d with
  | some ds => Φ (.lst (cutD ds l u)) m3
  | none => False) Ψ) Ψ) Ψ
theorem je_sl {lo hi : Option Expr} {Wl Wh : DPt} {p2 : Pos} (ha : JE X E a Wa) (hl : JO X E lo Wl) (hh : JO X E hi Wh) : JE X E (.Subscript a (.Slice lo hi none p2) pos) (dSl Wa Wl Wh) := PE.imp (pe_slice sl_list ha hl hh) fun σ H Q ⟨w, ρ, m, Ψ, Φ, a, vl, h⟩ => by
  refine ⟨w, ρ, m, Ψ, _, a, fun d m1 w1 H1 v l1 h1 r1 q1 => ?_, h⟩
  refine ⟨w1, ρ, m1, Ψ, _, a.to l1 h1, fun o m2 w2 H2 l2 h2 q2 => ?_, q1⟩
  refine ⟨w2, ρ, m2, Ψ, _, a.to (l1.trans l2) h2, fun u m3 w3 H3 l3 h3 q3 => ?_, q2⟩
  split at q3
  · rename_i ds e
    obtain ⟨a, us, rfl, ha, ra⟩ := asL_ok h3 e (Rep.mono (l2.trans l3) _ _ r1)
    exact ⟨a, us, rfl, ha, fun p hp => (vl.mono (l1.trans (l2.trans l3))).newL h3 hp (cut_rep ra _ _) q3⟩
  · exact q3.elim
end
end Dl

namespace Dl
open PySem L2 PyProof.Rows

/-! ### comprehensions -/
abbrev XF : XP := fun _ _ _ => False
abbrev EF : WX := fun _ _ _ _ => False
def wipeD (ρ : Env) : List Nat → Env
  | [] => ρ
  | v :: vs => (wipeD ρ vs).set v none
theorem Slots.wipes {K : PySem.W.Frag} {w : Wd} {σ : L2.St} {ρ : Env} (h : Slots K w σ ρ) : ∀ vs, Slots K w (L2.wipe σ vs) (wipeD ρ vs)
  | [] => h
  | v :: vs => (Slots.wipes h vs).wipe v
def lcW (g : DG) (tt : DT) (te : DE) (ρ : Env) (Φ : D → MM → Prop) : List D → List D → MM → Prop
  | [], acc, m => Φ (.lst acc) m
  | d :: ds, acc, m => g d ρ (m.push (.lst acc)) fun ρ1 m1 => m1 = m.push (.lst acc) ∧ tt ρ1 (m.push (.lst acc)) (fun b m2 => m2 = m.push (.lst acc) ∧ if b = true then
      te ρ1 (m.push (.lst acc)) (fun y m3 => m3 = m.push (.lst acc) ∧ acc.length < LIM ∧ clD m.M.length y = true ∧ lcW g tt te ρ Φ ds (acc ++ [y]) m) XF
    else lcW g tt te ρ Φ ds acc m) XF
def dLc (it : DI) (g : DG) (tt : DT) (te : DE) (vs : List Nat) : DE := fun ρ m Φ Ψ => it ρ m (fun ds m1 => lcW g tt te (wipeD ρ vs) Φ ds [] m1) Ψ
def dYes : DT := fun _ m Φ _ => Φ true m
theorem xlift_F {K : PySem.W.Frag} {w : Wd} {E : WX} {σ : L2.St} : XLift K w E σ XF := fun _ _ _ _ _ _ _ _ _ _ _ q => q.elim
section
variable {X : Cx} {E : WX} {a b c : Expr} {Wa Wb Wc : DE} {pos : Pos}
theorem jts_nil {K : PySem.W.Frag} : PTs X [] (liftT K E dYes) := ⟨fun pins s σ H Q I ⟨w, ρ, m, Ψ, Φ, a, n, h⟩ => pts_nil.run pins s σ H Q I (n true m w H (.refl w) a.h h)⟩
/-! ### calls of built-ins -/
abbrev DCB := List D → MM → (D → MM → Prop) → Prop
def CbL (K : PySem.W.Frag) (r : List V → Hp → VK → Prop) (c : DCB) : Prop := ∀ w m H ds vs Q Φ, HRep K w m H → RepAll K w ds vs → VLift K w Q Φ → c ds m Φ → r vs H Q
def dCB (c : DCB) (r : DA) : DE := fun ρ m Φ Ψ => r ρ m (fun ds m1 => c ds m1 Φ) Ψ
variable {e : Expr} {es : List Expr} {x : Str} {p : Pos} {Ws : DA} {r : List V → Hp → VK → Prop} {cb : DCB}
theorem je_callB {id : String} (hc : CallR X (.builtin id) r) (hl : CbL X.K r cb) (hg : Gl X x) (hm : X.mg x = none) (hv : bootBuiltins x = some (.builtin id)) (ha : JA X E (e :: es) Ws) (hn : x ≠ "__name__" := by decide) (hdb : (x == ("__debug__" : Str)) = false := by decide)
    (he : starEach (e :: es) X.env = (false, eval e X.env) :: starEach es X.env := by rfl) (hpl : (backTo pos (starEach es X.env)).any (·.1) = false := by rfl) : JE X E (.Call (.Name x p) (e :: es) [] pos) (dCB cb Ws) :=
  PE.imp (pe_callB hc hg hm hv ha hn hdb he hpl) fun σ H Q ⟨w, ρ, m, Ψ, Φ, a, vl, h⟩ => ⟨w, ρ, m, Ψ, _, a, fun ds m1 w1 H1 vs l1 h1 r1 q1 => hl w1 m1 H1 ds vs Q Φ h1 r1 (vl.mono l1) q1, h⟩
theorem je_callTy {T : String} (hc : CallR X (.type T) r) (hl : CbL X.K r cb) (hg : Gl X x) (hm : X.mg x = none) (hv : bootBuiltins x = some (.type T)) (ha : JA X E (e :: es) Ws) (hn : x ≠ "__name__" := by decide) (hdb : (x == ("__debug__" : Str)) = false := by decide)
    (he : starEach (e :: es) X.env = (false, eval e X.env) :: starEach es X.env := by rfl) (hpl : (backTo pos (starEach es X.env)).any (·.1) = false := by rfl) : JE X E (.Call (.Name x p) (e :: es) [] pos) (dCB cb Ws) :=
  PE.imp (pe_callTy hc hg hm hv ha hn hdb he hpl) fun σ H Q ⟨w, ρ, m, Ψ, Φ, a, vl, h⟩ => ⟨w, ρ, m, Ψ, _, a, fun ds m1 w1 H1 vs l1 h1 r1 q1 => hl w1 m1 H1 ds vs Q Φ h1 r1 (vl.mono l1) q1, h⟩
end
def cLen : DCB := fun ds m Φ => match ds with
  | [.str z] => z.length ≤ LIM ∧ Φ (.int z.length) m
  | [d] => match asL m d with
    | some xs => Φ (.int xs.length) m
    | none => match asT d with
      | some xs => Φ (.int xs.length) m
      | none => False
  | _ => False
theorem cbl_len {K : PySem.W.Frag} : CbL K (fun xs H Q => ∃ x n, xs = [x] ∧ LenV K x H n ∧ Q (.int n) H) cLen := fun w m H ds vs Q Φ h r vl q => by
  unfold cLen at q
  split at q
  · obtain ⟨v, rfl, rv⟩ := rep1 r
    cases (show v = V.str _ from rv)
    exact ⟨_, _, rfl, ⟨lim_sz q.1, rfl⟩, vl.int h q.2⟩
  · obtain ⟨v, rfl, rv⟩ := rep1 r
    split at q
    · rename_i e
      obtain ⟨a, us, rfl, ha, ra⟩ := asL_ok h e rv
      exact ⟨_, _, rfl, .inl ⟨us, ha, rfl⟩, vl.int h (by rw [ra.length]; exact q)⟩
    · split at q
      · rename_i e
        obtain ⟨a, us, rfl, ha, ra⟩ := asT_ok h e rv
        exact ⟨_, _, rfl, .inr ⟨us, ha, rfl⟩, vl.int h (by rw [ra.length]; exact q)⟩
      · exact q.elim
  · exact q.elim
def cInt : DCB := fun ds m Φ => match ds with
  | [.int i] => Φ (.int i) m
  | [.bl b] => Φ (.int (if b then 1 else 0)) m
  | _ => False
theorem cbl_int {K : PySem.W.Frag} : CbL K (fun xs H Q => (∃ i, xs = [V.int i] ∧ Q (.int i) H) ∨ ∃ k, xs = [V.bl k] ∧ Q (.int (if k then 1 else 0)) H) cInt := fun w m H ds vs Q Φ h r vl q => by
  unfold cInt at q
  split at q
  · obtain ⟨v, rfl, rv⟩ := rep1 r
    cases (show v = V.int _ from rv)
    exact .inl ⟨_, rfl, vl.int h q⟩
  · obtain ⟨v, rfl, rv⟩ := rep1 r
    cases (show v = V.bl _ from rv)
    exact .inr ⟨_, rfl, vl.int h q⟩
  · exact q.elim
def cAbs : DCB := fun ds m Φ => match ds with
  | [.int i] => Φ (.int (if i < 0 then -i else i)) m
  | _ => False
theorem cbl_abs {K : PySem.W.Frag} : CbL K (fun xs H Q => ∃ i, xs = [V.int i] ∧ Q (.int (if i < 0 then -i else i)) H) cAbs := fun w m H ds vs Q Φ h r vl q => by
  unfold cAbs at q
  split at q
  · obtain ⟨v, rfl, rv⟩ := rep1 r
    cases (show v = V.int _ from rv)
    exact ⟨_, rfl, vl.int h q⟩
  · exact q.elim
def intsD : List D → Option (List Int)
  | [] => some []
  | .int i :: r => (intsD r).map (i :: ·)
  | _ => none
theorem ints_ok {K : PySem.W.Frag} {w : Wd} : ∀ {ds : List D} {vs : List V} {ns : List Int}, intsD ds = some ns → RepAll K w ds vs → vs = ns.map V.int
  | [], vs, ns, e, r => by cases e; exact r
  | d :: ds, vs, ns, e, r => by
    obtain ⟨v, r', rfl, rv, rr⟩ := r
    cases d with
    | int i =>
      have e : (intsD ds).map (i :: ·) = some ns := e
      cases q : intsD ds with
      | none => rw [q] at e; cases e
      | some ns' =>
        rw [q] at e; cases e
        cases (show v = V.int i from rv)
        rw [ints_ok q rr]; rfl
    | _ => cases e
theorem ints_map : ∀ (ns : List Int), intsD (ns.map D.int) = some ns
  | [] => rfl
  | n :: ns => by
    show (intsD (ns.map D.int)).map (n :: ·) = _
    rw [ints_map ns]; rfl
def cSum : DCB := fun ds m Φ => match ds with
  | [d] => match asL m d with
    | some xs => ∃ ns, intsD xs = some ns ∧ Φ (.int ns.sum) m
    | none => False
  | _ => False
def cMax2 : DCB := fun ds m Φ => match ds with
  | [.int i, .int j] => Φ (.int (if j > i then j else i)) m
  | _ => False
def cMin2 : DCB := fun ds m Φ => match ds with
  | [.int i, .int j] => Φ (.int (if j < i then j else i)) m
  | _ => False
theorem cbl_min2 {K : PySem.W.Frag} : CbL K (fun xs H Q => ∃ i j, xs = [V.int i, V.int j] ∧ Q (.int (if j < i then j else i)) H) cMin2 := fun w m H ds vs Q Φ h r vl q => by
  unfold cMin2 at q
  split at q
  · obtain ⟨v, u, rfl, rv, ru⟩ := rep2 r
    cases (show v = V.int _ from rv)
    cases (show u = V.int _ from ru)
    exact ⟨_, _, rfl, vl.int h q⟩
  · exact q.elim
/-- list(x): a new list, frozen or changing -/
def cList : DCB := fun ds m Φ => match ds with
  | [d] => match asL m d with
    | some xs => Φ (.lst xs) m
    | none => match asT d with
      | some xs => Φ (.lst xs) m
      | none => False
  | _ => False
theorem cbl_list {K : PySem.W.Frag} : CbL K (fun xs H Q => ∃ p ys, xs = [V.ref p] ∧ (SqL K H p ys ∨ SqT K H p ys) ∧ ∀ l, H l = none → Q (.ref l) (upd H l (.lst ys))) cList := fun w m H ds vs Q Φ h r vl q => by
  unfold cList at q
  split at q
  · obtain ⟨v, rfl, rv⟩ := rep1 r
    split at q
    · rename_i e
      obtain ⟨a, us, rfl, ha, ra⟩ := asL_ok h e rv
      exact ⟨a, us, rfl, .inl ha, fun l hl => vl.newL h hl ra q⟩
    · split at q
      · rename_i e
        obtain ⟨a, us, rfl, ha, ra⟩ := asT_ok h e rv
        exact ⟨a, us, rfl, .inr ha, fun l hl => vl.newL h hl ra q⟩
      · exact q.elim
  · exact q.elim
end Dl

namespace Dl
open PySem L2 PyProof.Rows

/-! ### isinstance -/
def tyD (m : MM) : D → Option String
  | .non => some "NoneType"
  | .bl _ => some "bool"
  | .int _ => some "int"
  | .str _ => some "str"
  | .lst _ => some "list"
  | .tup _ => some "tuple"
  | .hnd k => (moL m.M[k]?).map fun _ => "list"
  | _ => none
theorem tyD_ok {K : PySem.W.Frag} {w : Wd} {m : MM} {H : Hp} {d : D} {v : V} {T : String} (h : HRep K w m H) (e : tyD m d = some T) (r : Rep K w d v) : TyX K H v (.type T) := by
  cases d with
  | non => cases e; cases (show v = .non from r); exact .base .non
  | bl b => cases e; cases (show v = .bl b from r); exact .base (.bl b)
  | int b => cases e; cases (show v = .int b from r); exact .base (.int b)
  | str b => cases e; cases (show v = .str b from r); exact .base (.str b)
  | lst es => cases e; obtain ⟨a, xs, rfl, q, _⟩ := r; exact .base (.lst (h.ext _ _ q))
  | tup es => cases e; obtain ⟨a, xs, rfl, q, _⟩ := r; exact .base (.tup (h.ext _ _ q))
  | hnd k =>
    obtain ⟨a, rfl, q2⟩ := r
    have e : (moL m.M[k]?).map (fun _ => "list") = some T := e
    cases q : moL m.M[k]? with
    | none => rw [q] at e; cases e
    | some ds =>
      rw [q] at e; cases e
      obtain ⟨xs, hx, _⟩ := h.obj k a _ q2 (moL_eq q)
      exact .base (.lst hx)
  | _ => cases e
def cIsi : DCB := fun ds m Φ => match ds with
  | [x, .ty n] => match (tyD m x).bind fun t => kitB t n with
    | some b => Φ (.bl b) m
    | none => False
  | _ => False
theorem cbl_isi {K : PySem.W.Frag} : CbL K (rIsi K) cIsi := fun w m H ds vs Q Φ h r vl q => by
  unfold cIsi at q
  split at q
  · rename_i x n
    obtain ⟨v, u, rfl, rv, ru⟩ := rep2 r
    cases (show u = V.ty n from ru)
    split at q
    · rename_i b e
      cases e1 : tyD m x with
      | none => rw [e1] at e; cases e
      | some t =>
        rw [e1] at e
        exact ⟨v, .ty n, .type t, .type n, b, rfl, .ty n, tyD_ok h e1 rv, kit_ty e, vl.bl h q⟩
    · exact q.elim
  · exact q.elim
section
variable {X : Cx} {E : WX} {a b c : Expr} {Wa Wb Wc : DE} {pos : Pos} {e : Expr} {es : List Expr} {Ws : DA}
theorem je_ty {x : Str} {n : String} {pos : Pos} (hg : Gl X x) (hm : X.mg x = none) (hv : bootBuiltins x = some (.type n)) (hn : x ≠ "__name__" := by decide) (hd : (x == ("__debug__" : Str)) = false := by decide) : JE X E (.Name x pos) (dC (.ty n)) :=
  je_of (v := .ty n) (pe_bltn hg hm hv rfl hn hd) fun _ => rfl
/-! ### methods of lists -/
def dMethL (c : D → List D → MM → (D → MM → Prop) → Prop) (o : DE) (r : DA) : DE := fun ρ m Φ Ψ => o ρ m (fun x m1 => (asL m1 x).isSome = true ∧ r ρ m1 (fun ds m2 => c x ds m2 Φ) Ψ) Ψ
def MtL (K : PySem.W.Frag) (r : V → List V → Hp → VK → Prop) (c : D → List D → MM → (D → MM → Prop) → Prop) : Prop := ∀ w m H x ds u vs Q Φ, HRep K w m H → Rep K w x u → RepAll K w ds vs → VLift K w Q Φ → c x ds m Φ → r u vs H Q
theorem tyL_ok {K : PySem.W.Frag} {w : Wd} {m : MM} {H : Hp} {d : D} {v : V} (h : HRep K w m H) (e : (asL m d).isSome = true) (r : Rep K w d v) : tyV K "list" v H := by
  obtain ⟨ds, e⟩ := Option.isSome_iff_exists.mp e
  obtain ⟨a, xs, rfl, q, _⟩ := asL_ok h e r
  exact .inl ⟨rfl, xs, q⟩
theorem je_mL {name : Str} {id : String} {r : V → List V → Hp → VK → Prop} {c : D → List D → MM → (D → MM → Prop) → Prop} {apos cpos : Pos} {o : Expr} {Wo : DE} (slot : Slot "list" name id) (hty : typeOf (.builtin id) = pure (.type "method_descriptor")) (hm : MtR X id r) (hl : MtL X.K r c) (ho : JE X E o Wo) (ha : JA X E (e :: es) Ws)
    (hbase : attributeBase o name X.env (eval o X.env) = eval o X.env := by rfl)
    (hfew : ((backTo cpos (starEach (e :: es) X.env)).all (fun x => !x.1) && (backToKw cpos (keywordEach [] X.env)).all (fun x => x.1.isSome)
      && decide ((e :: es).length + ([] : List Keyword).length + (if ([] : List Keyword).isEmpty then 0 else 1) < 30)) = true := by rfl)
    (hline : (apos.endLine == cpos.line) = true := by rfl) (hs : starEach (e :: es) X.env = (false, eval e X.env) :: starEach es X.env := by rfl) (hplain : (backTo cpos (starEach es X.env)).any (·.1) = false := by rfl) :
    JE X E (.Call (.Attribute o name apos) (e :: es) [] cpos) (dMethL c Wo Ws) := PE.imp (pe_bm PySem.F.plainAttrs_list slot hty hm ho ha hbase hfew hline hs hplain) fun σ H Q ⟨w, ρ, m, Ψ, Φ, a, vl, h⟩ => by
  refine ⟨w, ρ, m, Ψ, _, a, fun d m1 w1 H1 v l1 h1 r1 q1 => ?_, h⟩
  refine ⟨tyL_ok h1 q1.1 r1, w1, ρ, m1, Ψ, _, a.to l1 h1, fun ds m2 w2 H2 vs l2 h2 r2 q2 => ?_, q1.2⟩
  exact hl w2 m2 H2 d ds v vs Q Φ h2 (Rep.mono l2 _ _ r1) r2 (vl.mono (l1.trans l2)) q2
end
theorem VLift.wr {K : PySem.W.Frag} {w : Wd} {m : MM} {H : Hp} {Q : VK} {Φ : D → MM → Prop} {k : Nat} {a : Addr} {ds ds' : List D} {xs' : List V} {d : D} {v : V} (vl : VLift K w Q Φ) (h : HRep K w m H) (e : w.th[k]? = some a) (eo : m.M[k]? = some (.lst ds)) (r : RepAll K w ds' xs')
    (rd : Rep K w d v) (q : Φ d ⟨m.M.set k (.lst ds'), m.s⟩) : Q v (upd H a (.lst xs')) :=
  vl d _ w _ v (.refl w) (h.wr (o' := .lst ds') e eo (fun z => by cases z) ⟨xs', upd_same, r⟩) rd q
def oApp : D → List D → MM → (D → MM → Prop) → Prop := fun x ds m Φ => match x, ds with
  | .hnd k, [y] => match moL m.M[k]? with
    | some xs => xs.length < LIM ∧ Φ .non ⟨m.M.set k (.lst (xs ++ [y])), m.s⟩
    | none => False
  | _, _ => False
theorem mtl_app {K : PySem.W.Frag} : MtL K rAppend oApp := fun w m H x ds u vs Q Φ h r rs vl q => by
  unfold oApp at q
  split at q
  · split at q
    · rename_i k y _ xs e
      obtain ⟨a, rfl, q2⟩ := r
      obtain ⟨v, rfl, rv⟩ := rep1 rs
      obtain ⟨us, hx, ru⟩ := h.obj k a _ q2 (moL_eq e)
      exact ⟨a, us, v, rfl, rfl, hx, lim_lt (by rw [ru.length]; exact q.1), vl.wr (ds' := xs ++ [y]) (d := .non) h q2 (moL_eq e) (ru.append ⟨v, [], rfl, rv, rfl⟩) rfl q.2⟩
    · exact q.elim
  · exact q.elim
def oPop : D → List D → MM → (D → MM → Prop) → Prop := fun x ds m Φ => match x, ds with
  | .hnd k, [] => match moL m.M[k]? with
    | some xs => ∃ y, xs[xs.length - 1]? = some y ∧ Φ y ⟨m.M.set k (.lst xs.dropLast), m.s⟩
    | none => False
  | _, _ => False
theorem RepAll.dropLast {K : PySem.W.Frag} {w : Wd} {ds : List D} {vs : List V} (r : RepAll K w ds vs) : RepAll K w ds.dropLast vs.dropLast := by
  rw [List.dropLast_eq_take, List.dropLast_eq_take, r.length]
  exact r.take _
theorem RepAll.eraseIdx {K : PySem.W.Frag} {w : Wd} {ds : List D} {vs : List V} (r : RepAll K w ds vs) (i : Nat) : RepAll K w (ds.eraseIdx i) (vs.eraseIdx i) := by
  rw [List.eraseIdx_eq_take_drop_succ, List.eraseIdx_eq_take_drop_succ]
  exact (r.take i).append (r.drop (i + 1))
def oPopAt : D → List D → MM → (D → MM → Prop) → Prop := fun x ds m Φ => match x, ds with
  | .hnd k, [.int i] => match moL m.M[k]? with
    | some xs => (-(2 ^ 63) ≤ i ∧ i < 2 ^ 63) ∧ ∃ j y, seqIndex? i xs.length = some j ∧ xs[j]? = some y ∧ Φ y ⟨m.M.set k (.lst (xs.eraseIdx j)), m.s⟩
    | none => False
  | _, _ => False
theorem mtl_popAt {K : PySem.W.Frag} : MtL K rPopAt oPopAt := fun w m H x ds u vs Q Φ h r rs vl q => by
  unfold oPopAt at q
  split at q
  · split at q
    · rename_i k i _ xs e
      obtain ⟨a, rfl, q2⟩ := r
      obtain ⟨v0, rfl, r0⟩ := rep1 rs
      cases (show v0 = V.int i from r0)
      obtain ⟨us, hx, ru⟩ := h.obj k a _ q2 (moL_eq e)
      obtain ⟨q1, j, y, ej, ey, q⟩ := q
      obtain ⟨v, ev, rv⟩ := ru.get ey
      exact ⟨a, us, i, j, v, rfl, rfl, hx, q1.1, q1.2, by rw [ru.length]; exact ej, ev, vl.wr h q2 (moL_eq e) (ru.eraseIdx j) rv q⟩
    · exact q.elim
  · exact q.elim
section
variable {X : Cx} {E : WX} {a b c : Expr} {Wa Wb Wc : DE} {pos : Pos} {e : Expr} {es : List Expr} {Ws : DA}
/-- o[i] = e -/
def dSetIx (e o i : DE) : DS := fun N Ψ ρ m => e ρ m (fun v m1 => o ρ m1 (fun x m2 => i ρ m2 (fun j m3 => match x, j with
  | .hnd k, .int j => match moL m3.M[k]? with
    | some xs => ∃ n, ixN xs.length j = some n ∧ N.nx ρ ⟨m3.M.set k (.lst (xs.set n v)), m3.s⟩
    | none => False
  | _, _ => False) (Ψ ρ)) (Ψ ρ)) (Ψ ρ)
theorem js_setIx {o i : Expr} {Wo Wi : DE} {p1 : Pos} (he : JE X E a Wa) (ho : JE X E o Wo) (hi : JE X E i Wi) (h0 : PG X (.Subscript o i p1) (gSub (lift X.K E Wo) (lift X.K E Wi) rSetL))
    (hs : swapsWithSole [.Subscript o i p1] a pos.line X.env = pure false := by rfl) (hw : swappedStores [.Subscript o i p1] a X.env = pure none := by rfl) (h1 : (assignEach [.Subscript o i p1] X.env).map (·.2) = [assign (.Subscript o i p1) X.env] := by rfl) :
    JS X E (.Assign [.Subscript o i p1] a pos) (dSetIx Wa Wo Wi) := PS.imp (ps_asg he h0 hs hw h1) fun D σ H ⟨w, ρ, m, Ψ, N, a, n, h⟩ => by
  refine ⟨w, ρ, m, Ψ ρ, _, a.at, fun d m1 w1 H1 v l1 h1 r1 q1 => ?_, h⟩
  have a1 := a.to l1 h1
  refine ⟨w1, ρ, m1, Ψ ρ, _, a1.at, fun x m2 w2 H2 u l2 h2 r2 q2 => ?_, q1⟩
  refine ⟨w2, ρ, m2, Ψ ρ, _, (a1.to l2 h2).at, fun j m3 w3 H3 y l3 h3 r3 q3 => ?_, q2⟩
  split at q3
  · split at q3
    · rename_i k j _ xs e
      obtain ⟨nn, en, q⟩ := q3
      obtain ⟨b, rfl, q2⟩ := Rep.mono l3 _ _ r2
      cases (show y = V.int j from r3)
      obtain ⟨us, hx, ru⟩ := h3.obj k b _ q2 (moL_eq e)
      refine ⟨b, us, j, nn, rfl, rfl, hx, by rw [ru.length]; exact en, ?_⟩
      have l13 := l1.trans (l2.trans l3)
      exact n.nx ρ _ w3 _ σ l13 (h3.wr (o' := .lst (xs.set nn d)) q2 (moL_eq e) (fun z => by cases z) ⟨_, upd_same, ru.set nn (Rep.mono (l2.trans l3) _ _ r1)⟩) (a.s.mono l13) q
    · exact q3.elim
  · exact q3.elim
end

/-! ### a def by its body -/
theorem slots_start {K : PySem.W.Frag} {w : Wd} {ds : List D} {vs : List V} {N : List Str} (r : RepAll K w ds vs) : Slots K w (L2.start N vs) (ds.map some ++ List.replicate (N.length - ds.length) none) := by
  unfold L2.start
  refine ⟨by simp [r.length], fun i d e => ?_⟩
  have hi : i < ds.length := by
    rcases Nat.lt_or_ge i ds.length with h | h
    · exact h
    · rw [List.getElem?_append_right (by simpa using h), List.getElem?_replicate] at e
      split at e <;> cases e
  rw [List.getElem?_append_left (by simpa using hi), List.getElem?_map] at e
  cases q : ds[i]? with
  | none => rw [q] at e; cases e
  | some d' =>
    rw [q] at e; cases e
    obtain ⟨v, ev, rv⟩ := r.get q
    refine ⟨v, ?_, rv⟩
    rw [List.getElem?_append_left (by simpa [r.length] using hi), List.getElem?_map, ev]; rfl
section
variable {P : Program} {w : World} {K : PySem.W.Frag} {mg : Str → Option Value} {base : Heap}
abbrev wishE (E : XK) : WX := fun cls d _ H => E cls d H
theorem takesD {N : List Str} {qual : Str} {st : Stmt} {f : Addr} {cdv : Value} {A : Around} {outer : List PySem.Env} {s : Shared} {H : Hp} {E : XK} : Takes (cxOf (L2.CX P w) P w K mg base N qual (defScope st) f cdv A outer s H E) (wishE E) := takes_of rfl rfl rfl rfl
theorem passD {N : List Str} {qual : Str} {st : Stmt} {f : Addr} {cdv : Value} {A : Around} {outer : List PySem.Env} {s : Shared} {H : Hp} {E : XK} :
    PassesOwn (model (cxOf (L2.CX P w) P w K mg base N qual (defScope st) f cdv A outer s H E).prog (cxOf (L2.CX P w) P w K mg base N qual (defScope st) f cdv A outer s H E).w) (cxOf (L2.CX P w) P w K mg base N qual (defScope st) f cdv A outer s H E).A
      (cxOf (L2.CX P w) P w K mg base N qual (defScope st) f cdv A outer s H E).env (cxOf (L2.CX P w) P w K mg base N qual (defScope st) f cdv A outer s H E).xe := passes_of rfl
theorem okD {x qual : Str} {st : Stmt} {f : Addr} {fd : FuncData} {N ps : List Str} {k : Nat} {C : DC} {W : DS} (F : Fun K x qual st f fd) (S : FnScope N ps (defScope st))
    (hb : ∀ (cdv : Value) (A : Around) (outer : List PySem.Env) (s : Shared) (H : Hp) (E : XK), Room k (A.deeper (envOfC qual (defScope st) s.heap.objs.size f cdv)) → JSs (cxOf (L2.CX P w) P w K mg base N qual (defScope st) f cdv A outer s H E) (wishE E) (defBody st) W)
    (hC : ∀ ds m Φ Ψ, ds.length = ps.length → C ds m Φ Ψ → W { nx := fun _ m' => Φ .non m', rt := Φ } (fun _ => Ψ) (ds.map some ++ List.replicate (N.length - ds.length) none) m) :
    FnOk P w K mg base (L2.CX P w) (k + 1) f fd ps (spOf K ps.length C) := by
  refine F.okX S (fun vs H Q E h => h.1) fun cdv A outer s H vs Q E hr h => ⟨_, hb cdv A outer s H E hr, ?_⟩
  obtain ⟨hl, w0, ds, m, Φ, Ψ, h0, r, vl, xl, c⟩ := h
  have hd : ds.length = ps.length := r.length.symm.trans hl
  refine ⟨w0, _, m, fun _ => Ψ, _, ⟨h0, slots_start r, fun ρ σ w1 l1 _ C fs m' w' H' d xs l a b c q => xl C fs m' w' H' d xs (l1.trans l) a b c q⟩, ?_, hC ds m Φ Ψ hd c⟩
  exact ⟨fun ρ m' w' H' σ l h' _ q => vl .non m' w' H' _ l h' rfl q, vl, fun _ _ _ _ _ _ _ _ q => q.elim, fun _ _ _ _ _ _ _ _ q => q.elim⟩
end
end Dl

namespace Dl
open PySem L2 PyProof.Rows

abbrev oSub : DO := oI0 fun i j => i - j
abbrev oMul : DO := oI MulC fun i j => i * j
abbrev oDiv : DO := oI DivC fun i j => i / j
abbrev oMod : DO := oI ModC fun i j => i % j
abbrev oLt : DO := oB0 fun i j => decide (i < j)
abbrev oGt : DO := oB0 fun i j => decide (j < i)
abbrev oGe : DO := oB0 fun i j => decide (j ≤ i)
theorem opl_sub {K : PySem.W.Frag} : OpL K (rI0 fun i j => .int (i - j)) oSub := opl_I0
theorem opl_mul {K : PySem.W.Frag} : OpL K (rI MulC fun i j => .int (i * j)) oMul := opl_I fun _ _ h => h
theorem opl_div {K : PySem.W.Frag} : OpL K (rI CDivW fun i j => .int (i / j)) oDiv := opl_I fun _ _ h => divC_ok h
theorem opl_mod {K : PySem.W.Frag} : OpL K (rI (fun _ j => 0 < j) fun i j => .int (i % j)) oMod := opl_I fun _ _ h => h
theorem opl_lt {K : PySem.W.Frag} : OpL K (rI0 fun i j => .bl (decide (i < j))) oLt := opl_B0
theorem opl_gt {K : PySem.W.Frag} : OpL K (rI0 fun i j => .bl (decide (j < i))) oGt := opl_B0
theorem opl_ge {K : PySem.W.Frag} : OpL K (rI0 fun i j => .bl (decide (j ≤ i))) oGe := opl_B0
def oShl : DO := oI CPow fun i j => i * 2 ^ j.toNat
def oNeg : DO1 := fun x m Φ => match x with
  | .int i => Φ (.int (-i)) m
  | _ => False
theorem opl_idiv {K : PySem.W.Frag} : OpL K (rI CDiv fun i j => .int (i / j)) (oI CDiv fun i j => i / j) := opl_I fun _ _ h => h

/-- every parameter is given -/
abbrev BA (fd : FuncData) (ps : List Str) : Prop := ∀ us : List Value, us.length = ps.length → bindArgs fd ⟨us, []⟩ = pure (ps.zip us)
/-- a def stands and keeps its worth -/
def Ok (P : Program) (w : World) (K : PySem.W.Frag) (mg : Str → Option Value) (base : Heap) (x : Str) (lv : Nat) (ps : List Str) (C : DC) : Prop :=
  ∃ f fd, mg x = some (.ref f) ∧ PySem.W.keepIn K (.ref f) = true ∧ BA fd ps ∧ FnOk P w K mg base (L2.CX P w) lv f fd ps (spOf K ps.length C)
/-- a def as the top has written it -/
def DefT (K : PySem.W.Frag) (mg : Str → Option Value) (x : Str) (st : Stmt) (ps : List Str) : Prop := ∃ f fd, Fun K x x st f fd ∧ mg x = some (.ref f) ∧ BA fd ps
theorem Ok.mono {P : Program} {w : World} {K : PySem.W.Frag} {mg : Str → Option Value} {base : Heap} {x : Str} {lv lv' : Nat} {ps : List Str} {C : DC} (h : Ok P w K mg base x lv ps C) (l : lv ≤ lv') : Ok P w K mg base x lv' ps C := by
  obtain ⟨f, fd, a, b, c, d⟩ := h
  exact ⟨f, fd, a, b, c, d.mono l⟩
/-- a weaker worth -/
theorem Ok.imp {P : Program} {w : World} {K : PySem.W.Frag} {mg : Str → Option Value} {base : Heap} {x : Str} {lv : Nat} {ps : List Str} {C C' : DC} (h : Ok P w K mg base x lv ps C) (i : ∀ ds m Φ Ψ, C' ds m Φ Ψ → C ds m Φ Ψ) : Ok P w K mg base x lv ps C' := by
  obtain ⟨f, fd, a, b, c, d⟩ := h
  exact ⟨f, fd, a, b, c, d.imp fun vs H Q E ⟨z, w, ds, m, Φ, Ψ, q1, q2, q3, q4, q5⟩ => ⟨z, w, ds, m, Φ, Ψ, q1, q2, q3, q4, i _ _ _ _ q5⟩⟩
section
variable {X : Cx} {E : WX} {pos p : Pos} {e : Expr} {es : List Expr} {Ws : DA} {x : Str} {k : Nat} {ps : List Str} {C : DC}
theorem je_callO (G : Ok X.prog X.w X.K X.mg X.base x k ps C) (tk : Takes X E) (hr : Room k X.A) (hg : Gl X x) (ha : JA X E (e :: es) Ws) (n : Nat) (hn : ps.length = n := by rfl) (hdb : (x == ("__debug__" : Str)) = false := by decide)
    (he : starEach (e :: es) X.env = (false, eval e X.env) :: starEach es X.env := by rfl) (hpl : (backTo pos (starEach es X.env)).any (·.1) = false := by rfl) : JE X E (.Call (.Name x p) (e :: es) [] pos) (dCall n C Ws) := by
  subst hn
  obtain ⟨f, fd, hm, kp, b, F⟩ := G
  exact je_call tk F hr hg hm kp (Binds.all b) ha hdb he hpl
end
/-- the law's own worth -/
def CLaw (C : List Int → MM → (D → MM → Prop) → Prop) : DC := fun ds m Φ _ => ∃ ns, ds = [.rol (ns.map D.int)] ∧ C ns m Φ
def ClawT : List Int → MM → (D → MM → Prop) → Prop := fun ns m Φ => ns.length ≤ 63 ∧ m = ⟨[], 0⟩ ∧ ∀ m', Φ (.bl true) m'
theorem repAll_ints {K : PySem.W.Frag} {w : Wd} : ∀ (ns : List Int), RepAll K w (ns.map D.int) (ns.map V.int)
  | [] => rfl
  | n :: ns => ⟨.int n, _, rfl, rfl, repAll_ints ns⟩
theorem law_sp {K : PySem.W.Frag} {H : Hp} {a : Addr} {ns : List Int} (hl : ns.length ≤ 63) (hS : SqL K H a (ns.map V.int)) : spOf K 1 (CLaw ClawT) [.ref a] H (fun v _ => v = .bl true) fun _ _ _ => False := by
  refine ⟨rfl, ⟨H, [], none⟩, [.rol (ns.map D.int)], ⟨[], 0⟩, fun d _ => d = .bl true, fun _ _ _ => False, ?_, ?_, ?_, ?_, ns, rfl, hl, rfl, fun _ => rfl⟩
  · exact ⟨fun _ _ h => h, rfl, List.nodup_nil, fun k a o e => by simp at e, fun k a o e => by simp at e, (fun _ S e => nomatch e), ⟨fun _ => rfl, fun e => nomatch e⟩⟩
  · exact ⟨_, [], rfl, ⟨a, _, rfl, hS, repAll_ints ns⟩, rfl⟩
  · intro d m' w' H' v l h r q
    subst q
    exact r
  · intro _ _ _ _ _ _ _ _ _ _ _ q
    exact q.elim
theorem cx_false {P : Program} {w : World} {H : Hp} {s : Shared} {e : Value} {s' : Shared} (h : L2.CX P w [] H s (fun _ _ _ => False) e s') : False := by
  obtain ⟨_, _, _, _, _, _, _, _, _, _, _, _, z⟩ := h
  exact z.elim

/-! ### reasoning -/
/-- over the items of a list of anything -/
theorem forW_map {α : Type} {inj : α → D} {g : DG} {body : DS} {N : DN} {Ψ : XS} (I : List α → Env → MM → Prop) (hs : ∀ d r (k : Env → MM → Prop), (∀ ρ m, I r ρ m → k ρ m) → ∀ ρ m, I (d :: r) ρ m → g (inj d) ρ m (fun ρ1 m1 => body { N with nx := k, ct := k, bk := N.nx } Ψ ρ1 m1))
    (hd : ∀ ρ m, I [] ρ m → N.nx ρ m) : ∀ (ds : List α) (ρ : Env) (m : MM), I ds ρ m → forW g body N Ψ (ds.map inj) ρ m
  | [], ρ, m, h => hd ρ m h
  | d :: r, ρ, m, h => hs d r _ (fun ρ m => forW_map I hs hd r ρ m) ρ m h
/-- over a range: I at the number of turns done -/
theorem forW_rng {lo : Int} {n : Nat} {g : DG} {body : DS} {N : DN} {Ψ : XS} (I : Nat → Env → MM → Prop) (hs : ∀ i (k : Env → MM → Prop), i < n → (∀ ρ m, I (i + 1) ρ m → k ρ m) → ∀ ρ m, I i ρ m → g (.int (lo + (i : Nat))) ρ m (fun ρ1 m1 => body { N with nx := k, ct := k, bk := N.nx } Ψ ρ1 m1))
    (hd : ∀ ρ m, I n ρ m → N.nx ρ m) {ρ : Env} {m : MM} (h : I 0 ρ m) : forW g body N Ψ (rngD lo n) ρ m := by
  have key : ∀ (k i : Nat), i + k = n → ∀ ρ m, I i ρ m → forW g body N Ψ ((List.range' i k).map fun (j : Nat) => D.int (lo + (j : Nat))) ρ m := by
    intro k
    induction k with
    | zero =>
      intro i e ρ m h
      have e : i = n := by omega
      subst e
      exact hd ρ m h
    | succ k ih =>
      intro i e ρ m h
      rw [List.range'_succ]
      exact hs i _ (by omega) (fun ρ m h => ih (i + 1) (by omega) ρ m h) ρ m h
  unfold rngD
  rw [List.range_eq_range']
  exact key n 0 (by omega) ρ m h
inductive All2 {α β : Type} (R : α → β → Prop) : List α → List β → Prop where
  | nil : All2 R [] []
  | cons {a b as bs} : R a b → All2 R as bs → All2 R (a :: as) (b :: bs)
theorem All2.length {α β : Type} {R : α → β → Prop} {as : List α} {bs : List β} (h : All2 R as bs) : as.length = bs.length := by
  induction h with
  | nil => rfl
  | cons _ _ ih => rw [List.length_cons, List.length_cons, ih]
theorem All2.fn {α β : Type} {f : α → β} : ∀ {as : List α} {bs : List β}, All2 (fun a b => b = f a) as bs → bs = as.map f
  | _, _, .nil => rfl
  | _, _, .cons e h => by rw [e, h.fn]; rfl
theorem rngD0 {n : Nat} : rngD 0 n = (List.range n).map fun i : Nat => D.int (i : Nat) := by
  unfold rngD
  simp only [Int.zero_add]
/-- over range(n) -/
theorem forW_nat {n : Nat} {g : DG} {body : DS} {N : DN} {Ψ : XS} (I : Nat → Env → MM → Prop) (hs : ∀ i (k : Env → MM → Prop), i < n → (∀ ρ m, I (i + 1) ρ m → k ρ m) → ∀ ρ m, I i ρ m → g (.int (i : Nat)) ρ m (fun ρ1 m1 => body { N with nx := k, ct := k, bk := N.nx } Ψ ρ1 m1))
    (hd : ∀ ρ m, I n ρ m → N.nx ρ m) {ρ : Env} {m : MM} (h : I 0 ρ m) : forW g body N Ψ ((List.range n).map fun i : Nat => D.int (i : Nat)) ρ m := by
  rw [← rngD0]
  exact forW_rng I (fun i k hi hk ρ m h => by rw [Int.zero_add]; exact hs i k hi hk ρ m h) hd h
theorem clAll_ints {n : Nat} : ∀ (xs : List Int), clAll n (xs.map D.int) = true
  | [] => rfl
  | x :: xs => by
    show (true && clAll n (xs.map D.int)) = true
    rw [clAll_ints xs]; rfl
theorem bt_len : bootBuiltins "len" = some (.builtin "len") := by decide +kernel
theorem bt_abs : bootBuiltins "abs" = some (.builtin "abs") := by decide +kernel
theorem bt_min : bootBuiltins "min" = some (.builtin "min") := by decide +kernel
theorem bt_repr : bootBuiltins "repr" = some (.builtin "repr") := by decide +kernel
theorem bt_isinstance : bootBuiltins "isinstance" = some (.builtin "isinstance") := by decide +kernel
theorem bt_int : bootBuiltins "int" = some (.type "int") := by decide +kernel
theorem bt_bool : bootBuiltins "bool" = some (.type "bool") := by decide +kernel
theorem bt_list : bootBuiltins "list" = some (.type "list") := by decide +kernel
end Dl

namespace Dl
open PySem L2 PyProof.Rows

/-! ### further walks -/
section
variable {X : Cx} {E : WX} {a b c : Expr} {Ws : DA} {pos p tpos : Pos} {elts : List Expr} {kk : Nat}
def enumD : Nat → List D → List D
  | _, [] => []
  | i, d :: ds => .tup [.int (i : Nat), d] :: enumD (i + 1) ds
def diEnumerate (r : DA) : DI := fun ρ m Φ Ψ => r ρ m (fun ds m1 => match ds with
  | [d] => match asF d with
    | some xs => Φ (enumD 0 xs) m1
    | none => False
  | _ => False) Ψ
def zipD : List D → List D → List D
  | x :: xs, y :: ys => .tup [x, y] :: zipD xs ys
  | _, _ => []
def diZip (r : DA) : DI := fun ρ m Φ Ψ => r ρ m (fun ds m1 => match ds with
  | [d, e] => match asF d, asF e with
    | some xs, some ys => Φ (zipD xs ys) m1
    | _, _ => False
  | _ => False) Ψ
def diReversed (r : DA) : DI := fun ρ m Φ Ψ => r ρ m (fun ds m1 => match ds with
  | [d] => match asF d with
    | some xs => Φ xs.reverse m1
    | none => False
  | _ => False) Ψ
end

/-! ### a comprehension whose list changes later -/
def lcWM (g : DG) (tt : DT) (te : DE) (ρ : Env) (Φ : D → MM → Prop) : List D → List D → MM → Prop
  | [], acc, m => Φ (.hnd m.M.length) (m.push (.lst acc))
  | d :: ds, acc, m => g d ρ (m.push (.lst acc)) fun ρ1 m1 => m1 = m.push (.lst acc) ∧ tt ρ1 (m.push (.lst acc)) (fun b m2 => m2 = m.push (.lst acc) ∧ if b = true then
      te ρ1 (m.push (.lst acc)) (fun y m3 => m3 = m.push (.lst acc) ∧ acc.length < LIM ∧ lcWM g tt te ρ Φ ds (acc ++ [y]) m) XF
    else lcWM g tt te ρ Φ ds acc m) XF
def dLcM (it : DI) (g : DG) (tt : DT) (te : DE) (vs : List Nat) : DE := fun ρ m Φ Ψ => it ρ m (fun ds m1 => lcWM g tt te (wipeD ρ vs) Φ ds [] m1) Ψ
theorem lcM_ok {K : PySem.W.Frag} {E : WX} {wi : DI} {g : DG} {tt : DT} {te : DE} {vs : List Nat} {σ : L2.St} {H : Hp} {Q : VK} (h : lift K E (dLcM wi g tt te vs) σ H Q) : tLc (liftI K E wi) (liftG K vs g) (liftT K EF tt) (lift K EF te) vs σ H Q := by
  obtain ⟨w, ρ, m, Ψ, Φ, a, vl, h⟩ := h
  refine ⟨w, ρ, m, Ψ, _, a, fun ds m1 w1 H1 J l1 h1 wk q1 => ?_, h⟩
  intro D hD
  refine ⟨fun i k H => k = ds.length - i ∧ i ≤ ds.length ∧ ∃ w' acc, w1.le w' ∧ HRep K w' (m1.push (.lst acc)) H ∧ w'.th[m1.M.length]? = some D ∧ lcWM g tt te (wipeD ρ vs) Φ (ds.drop i) acc m1, ⟨ds.length, by omega, Nat.zero_le _, w1.add D, [], Wd.le_add, h1.add hD ⟨[], upd_same, rfl⟩, ?_, q1⟩, ?_⟩
  · show (w1.th ++ [D])[m1.M.length]? = some D
    rw [← h1.len, List.getElem?_append_right (Nat.le_refl _)]; simp
  rintro i k H2 ⟨rfl, hi, w2, acc, l2, h2, hD2, q2⟩
  by_cases hlt : i < ds.length
  · have ed : ds[i]? = some ds[i] := List.getElem?_eq_getElem hlt
    have dr : ds.drop i = ds[i] :: ds.drop (i + 1) := List.drop_eq_getElem_cons hlt
    rw [dr] at q2
    refine .inr ⟨wk.go w2 _ H2 i _ l2 h2 ed, fun H' => ∃ w' acc, w1.le w' ∧ HRep K w' (m1.push (.lst acc)) H' ∧ w'.th[m1.M.length]? = some D ∧ lcWM g tt te (wipeD ρ vs) Φ (ds.drop (i + 1)) acc m1, fun H' z => ⟨ds.length - (i + 1), by omega, rfl, hlt, z⟩, fun x H3 y => ?_⟩
    obtain ⟨w3, l3, h3, r3⟩ := wk.yld w2 _ H2 i _ x H3 l2 h2 ed y
    have s3 : Slots K w3 (L2.wipe σ vs) (wipeD ρ vs) := ((a.s.mono l1).mono (l2.trans l3)).wipes vs
    refine ⟨w3, wipeD ρ vs, _, ds[i], _, h3, s3, r3, fun ρ' m' w' H' σ' l h' s' e q => ⟨e.trans wipe_wipe, ?_⟩, q2⟩
    obtain ⟨rfl, q⟩ := q
    refine ⟨w', ρ', _, XF, _, ⟨h', s', xlift_F⟩, fun b m4 w4 H4 l4 h4 q4 => ?_, q⟩
    obtain ⟨rfl, q4⟩ := q4
    have l24 : w2.le w4 := l3.trans (l.trans l4)
    cases b with
    | true =>
      rw [if_pos rfl] at q4
      show (if true = true then _ else _)
      rw [if_pos rfl]
      refine ⟨w4, ρ', _, XF, _, ⟨h4, s'.mono l4, xlift_F⟩, fun y m5 w5 H5 v l5 h5 r5 q5 => ?_, q4⟩
      obtain ⟨rfl, hz, q5⟩ := q5
      have hD5 : w5.th[m1.M.length]? = some D := l5.th _ _ (l24.th _ _ hD2)
      have hM : (m1.push (.lst acc)).M[m1.M.length]? = some (.lst acc) := by
        show (m1.M ++ [MO.lst acc])[m1.M.length]? = _
        rw [List.getElem?_append_right (Nat.le_refl _)]; simp
      obtain ⟨xs, hx, r⟩ := h5.obj _ D _ hD5 hM
      refine ⟨xs, hx, lim_lt (by rw [r.length]; exact hz), w5, acc ++ [y], l2.trans (l24.trans l5), ?_, hD5, q5⟩
      have z := h5.wr (ho := .lst (xs ++ [v])) (o' := .lst (acc ++ [y])) hD5 hM (fun z => by cases z) ⟨_, upd_same, r.append ⟨v, [], rfl, r5, rfl⟩⟩
      have e : (m1.push (.lst acc)).M.set m1.M.length (.lst (acc ++ [y])) = (m1.push (.lst (acc ++ [y]))).M := by
        show (m1.M ++ [MO.lst acc]).set m1.M.length (.lst (acc ++ [y])) = m1.M ++ [MO.lst (acc ++ [y])]
        rw [List.set_append_right _ _ (Nat.le_refl _)]; simp
      rw [e] at z
      exact z
    | false =>
      rw [if_neg Bool.false_ne_true] at q4
      show (if false = true then _ else _)
      rw [if_neg Bool.false_ne_true]
      exact ⟨w4, acc, l2.trans l24, h4, l24.th _ _ hD2, q4⟩
  · have e : i = ds.length := by omega
    subst e
    rw [List.drop_length] at q2
    exact .inl ⟨wk.stop w2 _ H2 l2 h2, vl (.hnd m1.M.length) _ w2 H2 _ (l1.trans l2) h2 ⟨D, rfl, hD2⟩ q2⟩
section
variable {X : Cx} {E : WX}
theorem je_lcM {elt tg iter : Expr} {ifs : List Expr} {scope : Scope} {own : List (Str × Nat)} {pos : Pos} {wi : DI} {g : DG} {tt : DT} {te : DE} (hc : X.calm = true) (hN : X.N.Nodup) (hi : JI X E tg iter wi) (ok : BlkOk X.N X.env.scope scope own)
    (hg : ∀ (s : Shared) (H : Hp) (C : Addr) (cl : List (Str × Addr)) (fp : List Addr), PG (X.blk s H scope (compEnvC scope cl C X.env) fp) tg (liftG X.K (own.map (·.2)) g))
    (ht : ∀ (s : Shared) (H : Hp) (C : Addr) (cl : List (Str × Addr)) (fp : List Addr), PTs (X.blk s H scope (compEnvC scope cl C X.env) fp) ifs (liftT X.K EF tt))
    (he : ∀ (s : Shared) (H : Hp) (C : Addr) (cl : List (Str × Addr)) (fp : List Addr), JE (X.blk s H scope (compEnvC scope cl C X.env) fp) EF elt te) (hs : ∀ x, foldedSetIterable iter X.env x = pure x := by intro _; rfl) :
    JE X E (.ListComp elt [⟨tg, iter, ifs, 0⟩] scope pos) (dLcM wi g tt te (own.map (·.2))) := PE.imp (pe_lc hc hN hi ok hg ht he hs) fun _ _ _ h => lcM_ok h
end

/-! ### the drawing state, opened and closed -/
section
variable {K : PySem.W.Frag} {w : Wd} {m : MM} {H : Hp} {p A c : Addr}
theorem HRep.adopt {o : MO} (h : HRep K w m H) (h0 : m.s ≠ 1) (hp : p ∉ w.th) (hF : w.F p = none) (ob : ORep K (w.add p) H p o) : HRep K (w.add p) (m.push o) H where
  ext := h.ext
  len := by show (w.th ++ [p]).length = (m.M ++ [o]).length; rw [List.length_append, List.length_append, h.len]; rfl
  nd := by
    show (w.th ++ [p]).Nodup
    rw [List.nodup_append]
    refine ⟨h.nd, by simp, fun a ha b hb e => ?_⟩
    have e2 : b = p := by simpa using hb
    subst e2; subst e
    exact hp ha
  obj := fun k a o' q1 q2 => by
    have q1 : (w.th ++ [p])[k]? = some a := q1
    have q2 : (m.M ++ [o])[k]? = some o' := q2
    rcases Nat.lt_or_ge k w.th.length with hk | hk
    · rw [List.getElem?_append_left hk] at q1
      rw [List.getElem?_append_left (by rw [← h.len]; exact hk)] at q2
      exact (h.obj k a o' q1 q2).mono Wd.le_add rfl
    · rw [List.getElem?_append_right hk] at q1
      rw [List.getElem?_append_right (by rw [← h.len]; exact hk)] at q2
      have hk2 : k = w.th.length := by
        have z := (List.getElem?_eq_some_iff.mp q1).1
        simp at z; omega
      subst hk2
      rw [Nat.sub_self] at q1
      rw [h.len, Nat.sub_self] at q2
      simp at q1 q2
      subst q1; subst q2
      exact ob
  thF := fun k a o' q1 q2 q3 => by
    have q1 : (w.th ++ [p])[k]? = some a := q1
    have q2 : (m.M ++ [o])[k]? = some o' := q2
    show w.F a = none
    rcases Nat.lt_or_ge k w.th.length with hk | hk
    · rw [List.getElem?_append_left hk] at q1
      rw [List.getElem?_append_left (by rw [← h.len]; exact hk)] at q2
      exact h.thF k a o' q1 q2 q3
    · rw [List.getElem?_append_right hk] at q1
      have z : a ∈ [p] := List.mem_of_getElem? q1
      have e : a = p := by simpa using z
      rw [e]; exact hF
  ls := fun q => absurd q h0
  flag := h.flag
theorem HRep.turn {s : Nat} (h : HRep K w m H) (h1 : s ≠ 1) (h0 : s ≠ 0) : HRep K w ⟨m.M, s⟩ H := ⟨h.ext, h.len, h.nd, h.obj, h.thF, fun q => absurd q h1, ⟨fun q => absurd q h0, fun q => absurd q h1⟩⟩
theorem repAll_intsD {K : PySem.W.Frag} {w : Wd} : ∀ (ns : List Int), RepAll K w (ns.map D.int) (ns.map V.int)
  | [] => rfl
  | n :: ns => ⟨.int n, _, rfl, rfl, repAll_intsD ns⟩
/-- the lists of the drawing state become our own -/
theorem HRep.opened (h : HRep K w m H) (h1 : m.s = 1) (hS : w.S = some ⟨A, c, 0⟩) : ∃ (cells : List Int) (seed : Int),
    HRep K ((w.add c).add A) ⟨m.M ++ [.lst (cells.map D.int)] ++ [.lst [.hnd m.M.length, .int seed]], 2⟩ H ∧ w.le ((w.add c).add A) := by
  obtain ⟨hok, h2⟩ := h.ls h1 _ hS
  obtain ⟨cells, seed, hA, hc⟩ : ∃ (cells : List Int) (seed : Int), H A = some (.lst [.ref c, .int seed]) ∧ H c = some (.lst (cells.map V.int)) := hok
  have fA := h2 A (by show A ∈ [A, c]; simp)
  have fc := h2 c (by show c ∈ [A, c]; simp)
  have ne : A ≠ c := fun z => by
    rw [← z, hA] at hc
    cases cells with
    | nil => cases hc
    | cons x xs => cases hc
  have g1 := (h.turn (s := 2) (by decide) (by decide)).adopt (o := .lst (cells.map D.int)) (by show (2 : Nat) ≠ 1; decide) fc.2.1 fc.1 ⟨_, hc, repAll_intsD cells⟩
  have g2 := g1.adopt (p := A) (o := .lst [.hnd m.M.length, .int seed]) (by show (2 : Nat) ≠ 1; decide) (by show A ∉ w.th ++ [c]; simp only [List.mem_append, List.mem_singleton, not_or]; exact ⟨fA.2.1, ne⟩) fA.1
    ⟨_, hA, .ref c, _, rfl, ⟨c, rfl, Wd.le_add.th _ _ (by show (w.th ++ [c])[m.M.length]? = some c; rw [← h.len, List.getElem?_append_right (Nat.le_refl _)]; simp)⟩, .int seed, [], rfl, rfl, rfl⟩
  exact ⟨cells, seed, g2, Wd.le_add.trans Wd.le_add⟩
/-- .. and are given back -/
theorem HRep.closed {M0 : List MO} {S : LS} (h : HRep K w m H) (hM : m.M.take M0.length = M0) (hS : w.S = some S) (hc : ∀ o ∈ M0, clO M0.length o = true) (hA : ∀ a ∈ S.fp, ∃ j, M0.length ≤ j ∧ w.th[j]? = some a ∧ ∃ o, m.M[j]? = some o ∧ o ≠ .dead) (ok : S.ok H) :
    HRep K (w.cut M0.length) ⟨M0, 1⟩ H := by
  have z := h.cut (n := M0.length) (by rw [hM]; exact hc)
  have e : (m.cut M0.length).M = M0 := hM
  exact {
    ext := z.ext
    len := by have q := z.len; rw [e] at q; exact q
    nd := z.nd
    obj := fun k a o q1 q2 => z.obj k a o q1 (by rw [e]; exact q2)
    thF := fun k a o q1 q2 q3 => z.thF k a o q1 (by rw [e]; exact q2) q3
    ls := fun _ S' q => by
      have q : w.S = some S' := q
      rw [hS] at q; cases q
      refine ⟨ok, fun a ha => ?_⟩
      obtain ⟨j, hj, e1, o, e2, e3⟩ := hA a ha
      refine ⟨h.thF j a o e1 e2 e3, fun hm => ?_, h.thH (List.mem_of_getElem? e1)⟩
      have hm : a ∈ w.th.take M0.length := hm
      obtain ⟨i, hi, ei⟩ := List.mem_iff_getElem.mp hm
      have hi2 := hi
      rw [List.length_take] at hi2
      have e4 : w.th[i]? = some a := by
        have q : (w.th.take M0.length)[i]? = some a := by rw [List.getElem?_eq_getElem hi, ei]
        rw [List.getElem?_take_of_lt (by omega)] at q
        exact q
      obtain ⟨k1, k2⟩ := List.getElem?_eq_some_iff.mp e1
      obtain ⟨j1, j2⟩ := List.getElem?_eq_some_iff.mp e4
      have ij : j = i := (List.getElem_inj h.nd).mp (k2.trans j2.symm)
      omega
    flag := ⟨fun q => (by cases q), fun _ => by show w.S.isSome = true; rw [hS]; rfl⟩ }
end
/-! the two defs of most laws: the state is made; a number is drawn -/
def C_stateO : DC := fun ds m Φ _ => (∃ ns : List Int, ds = [.rol (ns.map D.int)] ∧ ns.length ≤ 1000) ∧ ∀ (cells : List Int) (seed : Int), Φ (.hnd (m.M.length + 1)) ⟨m.M ++ [.lst (cells.map D.int)] ++ [.lst [.hnd m.M.length, .int seed]], m.s⟩
def C_state : DC := fun ds m Φ _ => (∃ ns : List Int, ds = [.rol (ns.map D.int)] ∧ ns.length ≤ 1000) ∧ m.s = 0 ∧ Φ (.st 0) ⟨m.M, 1⟩
def C_drawO : DC := fun ds m Φ _ => ∃ (k j : Nat) (cells : List Int) (seed n : Int), ds = [.hnd k, .int n] ∧ 0 < n ∧ n < 2 ^ 64 ∧ m.M[k]? = some (.lst [.hnd j, .int seed]) ∧ m.M[j]? = some (.lst (cells.map D.int)) ∧ j ≠ k ∧
  ∀ (r : Int) (cells' : List Int) (seed' : Int), 0 ≤ r → r < n → Φ (.int r) ⟨(m.M.set j (.lst (cells'.map D.int))).set k (.lst [.hnd j, .int seed']), m.s⟩
def C_draw : DC := fun ds m Φ _ => ∃ n : Int, ds = [.st 0, .int n] ∧ m.s = 1 ∧ 0 < n ∧ n < 2 ^ 64 ∧ ∀ r : Int, 0 ≤ r → r < n → Φ (.int r) m
section
variable {P : Program} {w : World} {K : PySem.W.Frag} {mg : Str → Option Value} {base : Heap} {x : Str} {lv : Nat} {ps : List Str}
theorem Ok.impV {C C' : DC} (h : Ok P w K mg base x lv ps C) (i : ∀ vs H Q E, spOf K ps.length C' vs H Q E → spOf K ps.length C vs H Q E) : Ok P w K mg base x lv ps C' := by
  obtain ⟨f, fd, a, b, c, d⟩ := h
  exact ⟨f, fd, a, b, c, d.imp i⟩
theorem state_close (h : Ok P w K mg base x lv ps C_stateO) : Ok P w K mg base x lv ps C_state := h.impV fun vs H Q E ⟨z, w0, ds, m, Φ, Ψ, h0, r, vl, xl, hds, hs, q⟩ => by
  refine ⟨z, w0, ds, m, fun d m' => ∃ (cells : List Int) (seed : Int), d = .hnd (m.M.length + 1) ∧ m' = ⟨m.M ++ [.lst (cells.map D.int)] ++ [.lst [.hnd m.M.length, .int seed]], m.s⟩, Ψ, h0, r, ?_, xl, hds, fun cells seed => ⟨cells, seed, rfl, rfl⟩⟩
  rintro d m' w' H' v l h' rd ⟨cells, seed, rfl, rfl⟩
  obtain ⟨A, rfl, eA⟩ := rd
  have hS : w'.S = none := h'.flag.1 hs
  have gA : (m.M ++ [MO.lst (cells.map D.int)] ++ [MO.lst [.hnd m.M.length, .int seed]])[m.M.length + 1]? = some (.lst [.hnd m.M.length, .int seed]) := by
    rw [List.append_assoc, List.getElem?_append_right (by omega)]; simp
  have gc : (m.M ++ [MO.lst (cells.map D.int)] ++ [MO.lst [.hnd m.M.length, .int seed]])[m.M.length]? = some (.lst (cells.map D.int)) := by
    rw [List.append_assoc, List.getElem?_append_right (Nat.le_refl _)]; simp
  obtain ⟨xs, hA, v1, r1, rfl, ⟨c, rfl, ec⟩, v2, r2, rfl, e2, e3⟩ := h'.obj _ A _ eA gA
  have e2 : v2 = .int seed := e2
  have e3 : r2 = [] := e3
  subst e2; subst e3
  obtain ⟨ys, hc, ry⟩ := h'.obj _ c _ ec gc
  have ey := ints_ok (ints_map cells) ry
  subst ey
  -- the world with the state
  have lS : w'.le ⟨w'.F, w'.th, some ⟨A, c, 0⟩⟩ := ⟨fun _ _ h => h, fun _ _ h => h, fun S e => by rw [hS] at e; cases e⟩
  have h2 : HRep K ⟨w'.F, w'.th, some ⟨A, c, 0⟩⟩ ⟨m.M ++ [.lst (cells.map D.int)] ++ [.lst [.hnd m.M.length, .int seed]], 2⟩ H' :=
    ⟨h'.ext, h'.len, h'.nd, fun k a o q1 q2 => (h'.obj k a o q1 q2).mono lS rfl, h'.thF, fun q => (by cases q), ⟨fun q => (by cases q), fun q => (by cases q)⟩⟩
  have h3 := h2.closed (M0 := m.M) (S := ⟨A, c, 0⟩) (by show (m.M ++ _ ++ _).take _ = _; rw [List.append_assoc, List.take_left' rfl]) rfl h0.cls (fun a ha => by
    have ha : a ∈ [A, c] := ha
    simp only [List.mem_cons, List.not_mem_nil, or_false] at ha
    rcases ha with rfl | rfl
    · exact ⟨_, by omega, eA, _, gA, fun z => by cases z⟩
    · exact ⟨_, Nat.le_refl _, ec, _, gc, fun z => by cases z⟩) ⟨cells, seed, hA, hc⟩
  exact vl (.st 0) ⟨m.M, 1⟩ _ H' _ (Wd.le_cut (l.trans lS) (Nat.le_of_eq h0.len)) h3 ⟨⟨A, c, 0⟩, rfl, rfl, rfl⟩ q
theorem draw_close (h : Ok P w K mg base x lv ps C_drawO) : Ok P w K mg base x lv ps C_draw := h.impV fun vs H Q E ⟨z, w0, ds, m, Φ, Ψ, h0, r, vl, xl, n, hds, hs, hn, hn2, q⟩ => by
  subst hds
  obtain ⟨v1, v2, rfl, ⟨⟨A, c, k⟩, hS, hk, rfl⟩, rfl⟩ := rep2 r
  have hk : k = 0 := hk
  subst hk
  obtain ⟨cells, seed, h1, l1⟩ := h0.opened hs hS
  have e1 : ((w0.add c).add A).th[m.M.length + 1]? = some A := by
    show (w0.th ++ [c] ++ [A])[m.M.length + 1]? = some A
    rw [← h0.len, List.append_assoc, List.getElem?_append_right (by omega)]; simp
  have e2 : ((w0.add c).add A).th[m.M.length]? = some c := by
    show (w0.th ++ [c] ++ [A])[m.M.length]? = some c
    rw [← h0.len, List.append_assoc, List.getElem?_append_right (Nat.le_refl _)]; simp
  have gA : (m.M ++ [MO.lst (cells.map D.int)] ++ [MO.lst [.hnd m.M.length, .int seed]])[m.M.length + 1]? = some (.lst [.hnd m.M.length, .int seed]) := by
    rw [List.append_assoc, List.getElem?_append_right (by omega)]; simp
  have gc : (m.M ++ [MO.lst (cells.map D.int)] ++ [MO.lst [.hnd m.M.length, .int seed]])[m.M.length]? = some (.lst (cells.map D.int)) := by
    rw [List.append_assoc, List.getElem?_append_right (Nat.le_refl _)]; simp
  refine ⟨z, (w0.add c).add A, [.hnd (m.M.length + 1), .int n], ⟨m.M ++ [.lst (cells.map D.int)] ++ [.lst [.hnd m.M.length, .int seed]], 2⟩, fun d m' => ∃ (r : Int) (cells' : List Int) (seed' : Int), d = .int r ∧ 0 ≤ r ∧ r < n ∧
    m' = ⟨m.M ++ [.lst (cells'.map D.int)] ++ [.lst [.hnd m.M.length, .int seed']], 2⟩, XF, h1, ⟨.ref A, _, rfl, ⟨A, rfl, e1⟩, .int n, [], rfl, rfl, rfl⟩, ?_, fun _ _ _ _ _ _ _ _ _ _ _ q => q.elim, m.M.length + 1, m.M.length, cells, seed, n, rfl, hn, hn2, gA, gc, by omega, fun r cells' seed' hr0 hr1 => ⟨r, cells', seed', rfl, hr0, hr1, ?_⟩⟩
  · rintro d m' w' H' v l h' rd ⟨r, cells', seed', rfl, hr0, hr1, rfl⟩
    have rd : v = .int r := rd
    subst rd
    have gA' : (m.M ++ [MO.lst (cells'.map D.int)] ++ [MO.lst [.hnd m.M.length, .int seed']])[m.M.length + 1]? = some (.lst [.hnd m.M.length, .int seed']) := by
      rw [List.append_assoc, List.getElem?_append_right (by omega)]; simp
    have gc' : (m.M ++ [MO.lst (cells'.map D.int)] ++ [MO.lst [.hnd m.M.length, .int seed']])[m.M.length]? = some (.lst (cells'.map D.int)) := by
      rw [List.append_assoc, List.getElem?_append_right (Nat.le_refl _)]; simp
    have f1 := l.th _ _ e1
    have f2 := l.th _ _ e2
    obtain ⟨xs, hA, v1, r1, rfl, ⟨c', rfl, ec⟩, v2, r2, rfl, e4, e3⟩ := h'.obj _ A _ f1 gA'
    have e4 : v2 = .int seed' := e4
    have e3 : r2 = [] := e3
    subst e4; subst e3
    rw [f2] at ec
    cases ec
    obtain ⟨ys, hc, ry⟩ := h'.obj _ c _ f2 gc'
    have ey := ints_ok (ints_map cells') ry
    subst ey
    have lall := l1.trans l
    have hS' : w'.S = some ⟨A, c, 0⟩ := lall.S _ hS
    have h3 := h'.closed (M0 := m.M) (S := ⟨A, c, 0⟩) (by show (m.M ++ _ ++ _).take _ = _; rw [List.append_assoc, List.take_left' rfl]) hS' h0.cls (fun a ha => by
      have ha : a ∈ [A, c] := ha
      simp only [List.mem_cons, List.not_mem_nil, or_false] at ha
      rcases ha with rfl | rfl
      · exact ⟨_, by omega, f1, _, gA', fun z => by cases z⟩
      · exact ⟨_, Nat.le_refl _, f2, _, gc', fun z => by cases z⟩) ⟨cells', seed', hA, hc⟩
    have em : (⟨m.M, 1⟩ : MM) = m := by rw [← hs]
    rw [em] at h3
    exact vl (.int r) m _ H' _ (Wd.le_cut lall (Nat.le_of_eq h0.len)) h3 rfl (q r hr0 hr1)
  · show (⟨_, 2⟩ : MM) = ⟨_, 2⟩
    congr 1
    rw [List.append_assoc, List.set_append_right _ _ (Nat.le_refl _), List.set_append_right _ _ (by omega), List.append_assoc]
    simp
end
end Dl

namespace Dl
open PySem L2
theorem moL_lst {ds : List D} : moL (some (.lst ds)) = some ds := rfl
theorem atI_cons0 {α : Type} {a : α} {l : List α} : atI (a :: l) 0 = some a := atI_nat (j := 0) rfl
theorem seqIx0 {n : Nat} (h : 0 < n) : seqIndex? 0 n = some 0 := PySem.StrLaws.seqIndex_nonneg (by decide) (by omega)
theorem ixN0 {n : Nat} (h : 0 < n) : ixN n 0 = some 0 := by
  unfold ixN
  rw [if_pos (by decide), if_pos (by omega)]; rfl
local macro_rules | `(tactic| walk_at "dl") => `(tactic| try simp only [dSeq, dSet, dOp, dUn, dVar, dC, dCB, dCons, dNil, dRet, dRetN, dIf, dB, dAnd, dOr, dNot, dDrop, dNext, dMethL, dSetIx, dAndV, dOrV, dNotV, dBlV, dIfE, dLst, dTup, dLstM, dCall, dChain, dAsg, dgName, dgTup, bindD, asT, dFor, diList, diRng1, diRng2, diEnumerate, diZip, diReversed, dLc, dLcM, dYes, wipeD, dAug, dSl, dpN, dpS,
  oI, oI0, oB0, oAdd, oNeg, oEq, oNe, oIx, oIsN, oNotN, isNon, oShl, oApp, oPop, oPopAt, cLen, cInt, cAbs, cSum, cMax2, cMin2, cList, cIsi, tyD, asL, asF, asK, moL_lst, ModC, DivC,
  List.getElem?_cons_zero, List.getElem?_cons_succ, List.set_cons_zero, List.set_cons_succ, List.getElem?_nil, List.length_cons, List.length_nil, List.length_map, Option.map_some, Option.bind_some, Option.isSome_some, if_true, true_and, and_true, MM.push])
theorem lcWM_fn {α β : Type} {inj : α → D} {out : β → D} {g : DG} {te : DE} {ρ : Env} {Φ : D → MM → Prop} (f : α → β) (m : MM) :
    ∀ (xs : List α) (acc : List D), (∀ x ∈ xs, ∀ (m' : MM) (Θ : D → MM → Prop), Θ (out (f x)) m' → g (inj x) ρ m' (fun ρ1 m1 => m1 = m' ∧ te ρ1 m' Θ XF)) → acc.length + xs.length ≤ LIM → Φ (.hnd m.M.length) (m.push (.lst (acc ++ (xs.map f).map out))) →
    lcWM g dYes te ρ Φ (xs.map inj) acc m
  | [], acc, _, _, h => by rw [List.map_nil, List.map_nil, List.append_nil] at h; exact h
  | x :: xs, acc, hg, hl, h => by
    rw [List.length_cons] at hl
    have z := hg x List.mem_cons_self (m.push (.lst acc)) (fun y m3 => m3 = m.push (.lst acc) ∧ acc.length < LIM ∧ lcWM g dYes te ρ Φ (xs.map inj) (acc ++ [y]) m) ⟨rfl, by omega, lcWM_fn f m xs (acc ++ [out (f x)]) (fun y hy => hg y (List.mem_cons_of_mem _ hy)) (by rw [List.length_append, List.length_singleton]; omega) (by
        rw [List.map_cons, List.map_cons] at h
        rw [List.append_assoc]
        exact h)⟩
    have key : (fun (ρ1 : Dl.Env) (m1 : MM) => m1 = m.push (.lst acc) ∧ te ρ1 (m.push (.lst acc)) (fun y m3 => m3 = m.push (.lst acc) ∧ acc.length < LIM ∧ lcWM g dYes te ρ Φ (xs.map inj) (acc ++ [y]) m) XF)
        = (fun ρ1 m1 => m1 = m.push (.lst acc) ∧ dYes ρ1 (m.push (.lst acc)) (fun b m2 => m2 = m.push (.lst acc) ∧ if b = true then te ρ1 (m.push (.lst acc)) (fun y m3 => m3 = m.push (.lst acc) ∧ acc.length < LIM ∧ lcWM g dYes te ρ Φ (xs.map inj) (acc ++ [y]) m) XF
          else lcWM g dYes te ρ Φ (xs.map inj) acc m) XF) := by
      funext ρ1 m1
      unfold dYes
      simp
    rw [key] at z
    exact z
def W_draw1 : DS := dSeq (dSet 2 (dOp oIx (dVar 0) (dC (.int 0)))) (dSeq (dWhile (dAnd (dB (dOp oGt (dCB cLen (dCons (dVar 2) (dNil))) (dC (.int 0)))) (dB (dOp oEq (dOp oIx (dVar 2) (dC (.int 0))) (dC (.int 0))))) (dDrop (dMethL oPopAt (dVar 2) (dCons (dC (.int 0)) (dNil))))) (dSeq (dIf (dB (dOp oGt (dCB cLen (dCons (dVar 2) (dNil))) (dC (.int 0)))) (dSeq (dSet 4 (dOp oIx (dVar 2) (dC (.int 0)))) (dSeq (dSetIx (dOp oDiv (dVar 4) (dVar 1)) (dVar 2) (dC (.int 0))) (dRet (dOp oMod (dCB cInt (dCons (dVar 4) (dNil))) (dVar 1))))) (dNext)) (dSeq (dSet 3 (dOp oMod (dCB cInt (dCons (dOp oAdd (dOp oMul (dOp oIx (dVar 0) (dC (.int 1))) (dC (.int 48271))) (dC (.int 12345))) (dNil))) (dC (.int 2147483647)))) (dSeq (dSetIx (dVar 3) (dVar 0) (dC (.int 1))) (dRet (dOp oMod (dCB cInt (dCons (dOp oDiv (dVar 3) (dC (.int 64))) (dNil))) (dVar 1)))))))
theorem rd_draw1 : ∀ ds m Φ Ψ, ds.length = 2 → C_drawO ds m Φ Ψ → W_draw1 { nx := fun _ m' => Φ .non m', rt := Φ } (fun _ => Ψ) (ds.map some ++ List.replicate (5 - ds.length) none) m := by
  intro ds m Φ Ψ _ h
  obtain ⟨k, j, cells, seed, n, rfl, hn, hn2, hk, hj, hjk, q⟩ := h
  change W_draw1 _ _ [some (D.hnd k), some (D.int n), none, none, none] m
  unfold W_draw1
  have jl : j < m.M.length := (List.getElem?_eq_some_iff.mp hj).1
  have kl : k < m.M.length := (List.getElem?_eq_some_iff.mp hk).1
  have setj : ∀ x, (m.M.set j x)[j]? = some x := fun x => List.getElem?_set_self jl
  have setk : ∀ x, (m.M.set j x)[k]? = some (.lst [.hnd j, .int seed]) := fun x => by rw [List.getElem?_set_ne hjk]; exact hk
  walk_at "dl"
  simp only [hk, moL_lst]
  refine ⟨_, rfl, ?_⟩
  refine ⟨fun c ρ m' => ∃ cs : List Int, c = cs.length ∧ ρ = [some (D.hnd k), some (D.int n), some (D.hnd j), none, none] ∧ m' = ⟨m.M.set j (.lst (cs.map D.int)), m.s⟩, ⟨_, cells, rfl, rfl, ?_⟩, ?_⟩
  · obtain ⟨M, s⟩ := m
    show (⟨M, s⟩ : MM) = ⟨M.set j _, s⟩
    congr 1
    apply List.ext_getElem?
    intro i
    by_cases hi : j = i
    · subst hi; rw [setj]; exact hj
    · rw [List.getElem?_set_ne hi]
  · rintro c ρ m' ⟨cs, rfl, rfl, rfl⟩
    walk_at "dl"
    simp only [setj, moL_lst]
    walk_at "dl"
    by_cases h0 : (0 : Int) < (cs.length : Nat)
    · obtain ⟨x, r, rfl⟩ : ∃ x r, cs = x :: r := by
        cases cs with
        | nil => simp at h0
        | cons x r => exact ⟨x, r, rfl⟩
      simp only [decide_eq_true h0, if_true, List.map_cons, atI_cons0]
      refine ⟨D.int x, rfl, rfl, rfl, ?_⟩
      rw [eqD_int]
      by_cases hx : x = 0
      · simp only [decide_eq_true hx, if_true]
        walk_at "dl"
        try simp only [setj, moL_lst, List.map_cons]
        refine ⟨⟨by decide, by decide⟩, 0, .int x, seqIx0 (by simp), rfl, r.length, by simp, r, rfl, ?_⟩
        rw [List.set_set]; rfl
      · simp only [decide_eq_false hx, Bool.false_eq_true, if_false, decide_eq_true h0, if_true]
        walk_at "dl"
        try simp only [setj, moL_lst, List.map_cons, atI_cons0]
        walk_at "dl"
        have h0' : (0 : Int) < ((r.length + 1 : Nat) : Int) := by omega
        try simp only [decide_eq_true h0', if_true]
        refine ⟨D.int x, rfl, ?_⟩
        walk_at "dl"
        try simp only [setj, moL_lst, List.map_cons, atI_cons0]
        refine ⟨⟨hn, hn2⟩, 0, ixN0 (by simp), hn, ?_⟩
        have z := q (x % n) ((x / n) :: r) seed (Int.emod_nonneg _ (by omega)) (Int.emod_lt_of_pos _ hn)
        rw [List.set_set]
        have e : (m.M.set j (.lst (((x / n) :: r).map D.int))).set k (.lst [.hnd j, .int seed]) = m.M.set j (.lst (((x / n) :: r).map D.int)) := by
          apply List.ext_getElem?
          intro i
          by_cases hi : k = i
          · subst hi; rw [List.getElem?_set_self (by rw [List.length_set]; exact kl), setk]
          · rw [List.getElem?_set_ne hi]
        rw [e] at z
        exact z
    · simp only [decide_eq_false h0, Bool.false_eq_true, if_false]
      walk_at "dl"
      try simp only [setj, setk, moL_lst]
      walk_at "dl"
      try simp only [decide_eq_false h0, Bool.false_eq_true, if_false]
      walk_at "dl"
      try simp only [setj, setk, moL_lst]
      refine ⟨_, rfl, ?_⟩
      walk_at "dl"
      try simp only [setj, setk, moL_lst]
      refine ⟨.inr (.inl ⟨by decide, by decide⟩), by decide, 1, rfl, ⟨by decide, by decide⟩, hn, ?_⟩
      exact q _ cs _ (Int.emod_nonneg _ (by omega)) (Int.emod_lt_of_pos _ hn)
def W_state : DS := dSeq (dSet 1 (dC (.int 7))) (dSeq (dFor (diList (dVar 0)) (dgName 2) (dSet 1 (dOp oMod (dCB cInt (dCons (dOp oAdd (dOp oMul (dVar 1) (dC (.int 31))) (dVar 2)) (dNil))) (dC (.int 1000003))))) (dRet (dLstM (dCons (dLcM (diList (dVar 0)) (dgName 2) (dYes) (dCB cAbs (dCons (dVar 2) (dNil))) [2]) (dCons (dOp oAdd (dVar 1) (dC (.int 1))) (dNil))))))
theorem rd_state : ∀ ds m Φ Ψ, ds.length = 1 → C_stateO ds m Φ Ψ → W_state { nx := fun _ m' => Φ .non m', rt := Φ } (fun _ => Ψ) (ds.map some ++ List.replicate (3 - ds.length) none) m := by
  intro ds m Φ Ψ _ h
  obtain ⟨⟨ns, rfl, hlen⟩, q⟩ := h
  change W_state _ _ [some (D.rol (ns.map D.int)), none, none] m
  unfold W_state
  walk_at "dl"
  refine forW_map (inj := D.int) (fun _ ρ m' => ∃ (s : Int) (v : Option D), ρ = [some (D.rol (ns.map D.int)), some (.int s), v] ∧ m' = m) ?_ ?_ ns _ _ ⟨7, none, rfl, rfl⟩
  · rintro x r kk hk ρ m' ⟨s, v, rfl, rfl⟩
    walk_at "dl"
    exact ⟨.inr (.inl ⟨by decide, by decide⟩), by decide, hk _ _ ⟨_, _, rfl, rfl⟩⟩
  · rintro ρ m' ⟨s, v, rfl, rfl⟩
    walk_at "dl"
    refine lcWM_fn (f := fun x => if x < 0 then -x else x) (out := D.int) _ ns [] (fun x _ m2 Θ hΘ => ?_) (by rw [List.length_nil]; show 0 + ns.length ≤ 16777216; omega) ?_
    · walk_at "dl"
      exact hΘ
    · walk_at "dl"
      have z := q (ns.map fun x => if x < 0 then -x else x) (s + 1)
      refine ⟨by decide, ?_⟩
      rw [List.length_append, List.length_singleton, List.nil_append]
      exact z

theorem mulR {i j : Int} (h0 : 0 ≤ j) (h1 : j ≤ 4294967296) : MulC i j := .inr (.inl ⟨by omega, by omega⟩)
theorem mulL {i j : Int} (h0 : 0 ≤ i) (h1 : i ≤ 4294967296) : MulC i j := .inl ⟨by omega, by omega⟩
/-- an item by an int -/
def gi (xs : List Int) (z : Int) : Int := xs.getD z.toNat 0
theorem ixN_of {n : Nat} {z : Int} (h0 : 0 ≤ z) (h : z < n) : ixN n z = some z.toNat := by
  unfold ixN
  rw [if_pos h0, if_pos h]
theorem atI_gi {xs : List Int} {z : Int} (h0 : 0 ≤ z) (h : z < xs.length) : atI (xs.map D.int) z = some (.int (gi xs z)) := by
  unfold atI
  rw [List.length_map, ixN_of h0 h]
  show (xs.map D.int)[z.toNat]? = _
  have hl : z.toNat < xs.length := by omega
  rw [List.getElem?_map, List.getElem?_eq_getElem hl]
  unfold gi
  rw [List.getD_eq_getElem?_getD, List.getElem?_eq_getElem hl]; rfl
end Dl

namespace Dl
/-! ### sums and remainders -/
/-- like mod p -/
def Cg (p a b : Int) : Prop := a % p = b % p
section
variable {p a b c d : Int}
theorem Cg.refl : Cg p a a := rfl
theorem Cg.of_eq (h : a = b) : Cg p a b := by rw [h]; exact .refl
theorem Cg.symm (h : Cg p a b) : Cg p b a := Eq.symm h
theorem Cg.trans (h : Cg p a b) (g : Cg p b c) : Cg p a c := Eq.trans h g
theorem Cg.add (h : Cg p a b) (g : Cg p c d) : Cg p (a + c) (b + d) := by
  unfold Cg at *
  rw [Int.add_emod, h, g, ← Int.add_emod]
theorem Cg.mul (h : Cg p a b) (g : Cg p c d) : Cg p (a * c) (b * d) := by
  unfold Cg at *
  rw [Int.mul_emod, h, g, ← Int.mul_emod]
theorem Cg.neg (h : Cg p a b) : Cg p (-a) (-b) := by
  have z := Cg.mul (Cg.refl (p := p) (a := -1)) h
  rw [← Int.neg_eq_neg_one_mul, ← Int.neg_eq_neg_one_mul] at z
  exact z
theorem Cg.sub (h : Cg p a b) (g : Cg p c d) : Cg p (a - c) (b - d) := by
  rw [Int.sub_eq_add_neg, Int.sub_eq_add_neg]
  exact h.add g.neg
theorem Cg.mod : Cg p (a % p) a := Int.emod_emod_of_dvd _ (Int.dvd_refl _)
end
/-- f 0 + … + f (n-1) -/
def S : Nat → (Nat → Int) → Int
  | 0, _ => 0
  | n + 1, f => S n f + f n
theorem S_cg {p : Int} {f g : Nat → Int} : ∀ (n : Nat), (∀ i < n, Cg p (f i) (g i)) → Cg p (S n f) (S n g)
  | 0, _ => .refl
  | n + 1, h => (S_cg n fun i hi => h i (by omega)).add (h n (by omega))
theorem S_eq {f g : Nat → Int} : ∀ (n : Nat), (∀ i < n, f i = g i) → S n f = S n g
  | 0, _ => rfl
  | n + 1, h => by
    show S n f + f n = S n g + g n
    rw [S_eq n fun i hi => h i (by omega), h n (by omega)]
theorem S_head {f : Nat → Int} : ∀ (n : Nat), S (n + 1) f = f 0 + S n fun i => f (i + 1)
  | 0 => by show 0 + f 0 = f 0 + 0; omega
  | n + 1 => by
    show S (n + 1) f + f (n + 1) = f 0 + (S n _ + f (n + 1))
    rw [S_head n, Int.add_assoc]
theorem gi_nat {xs : List Int} {n : Nat} : gi xs (n : Nat) = xs.getD n 0 := by
  unfold gi
  rw [Int.toNat_natCast]
end Dl

namespace Dl
open PySem L2 PyProof.Rows
/-! ### repr: asked by the law's own def alone, where no repr is under way -/
/-- small enough to be written out: depth at most n, weight at most k -/
structure OkR (n k : Nat) (d : D) : Prop where
  lay : okE n d = true
  shw : (toPy d).showable = true
  lvs : (toPy d).leavesShort 13 = true
  wgt : (toPy d).weight ≤ k
def shownD (d : D) : Str := (toPy d).shown
def isSeq : D → Bool
  | .lst _ => true
  | .rol _ => true
  | .tup _ => true
  | .rot _ => true
  | _ => false
def cRepr : DCB := fun ds m Φ => match ds with
  | [d] => OkR 60 1048576 d ∧ isSeq d = true ∧ Φ (.str (shownD d)) m
  | _ => False
def rRepr (K : PySem.W.Frag) : List V → Hp → VK → Prop := fun xs H Q => ∃ a d, xs = [V.ref a] ∧ Dp K H (.ref a) d ∧ d.canLay0 = true ∧ d.depth ≤ 60 ∧ d.showable = true ∧ d.leavesShort 13 = true ∧ d.weight ≤ 1048576 ∧ Q (.str d.shown) H
theorem cbl_repr {K : PySem.W.Frag} : CbL K (rRepr K) cRepr := fun w m H ds vs Q Φ h r vl q => by
  unfold cRepr at q
  split at q
  · rename_i d
    obtain ⟨ok, hq, q⟩ := q
    obtain ⟨v, rfl, rv⟩ := rep1 r
    have hd := dp_of h d v 60 rv ok.lay
    obtain ⟨c1, c2⟩ := okE_lay d 60 ok.lay
    obtain ⟨a, rfl⟩ : ∃ a, v = V.ref a := by
      cases d with
      | lst ds => obtain ⟨a, xs, e, _⟩ := rv; exact ⟨a, e⟩
      | rol ds => obtain ⟨a, xs, e, _⟩ := rv; exact ⟨a, e⟩
      | tup ds => obtain ⟨a, xs, e, _⟩ := rv; exact ⟨a, e⟩
      | rot ds => obtain ⟨a, xs, e, _⟩ := rv; exact ⟨a, e⟩
      | _ => exact absurd hq Bool.false_ne_true
    exact ⟨a, toPy d, rfl, hd, c1, c2, ok.shw, ok.lvs, ok.wgt, vl.str h q⟩
  · exact q.elim
theorem callR_repr {X : Cx} (hg : X.A.guards = some []) (hu : X.A.units + 100 < cLine) : CallR X (.builtin "repr") (rRepr X.K) := by
  rintro pins s σ H xs us Q I rs ⟨a, d, rfl, hd, c1, c2, c3, c4, c5, q⟩
  cases rs with
  | cons r rs =>
    cases rs
    cases r
    obtain ⟨as, rd⟩ := Dp.reads I d (.ref a) (.ref a) hd rfl
    exact repr_of_reads' rd c3 (PyData.noDict_hsm (PyData.hasDict_of_canLay d c1)) hg (by omega) (fun _ _ e => e) (fun h' u tk hk => ⟨.str d.shown, H, I.kept hk, ⟨u, rfl⟩, q⟩) (PyData.shown_fits (by decide) (by decide) c4 c5)
theorem OkR.int {n k : Nat} {i : Int} (h1 : -1000000000000 < i) (h2 : i < 1000000000000) (hk : 40 ≤ k) : OkR n k (.int i) where
  lay := rfl
  shw := by
    show decide (i.natAbs.log2 < 1920) = true

    by_cases h0 : i.natAbs = 0
    · rw [h0]; decide
    · have z := (Nat.log2_lt h0).mpr (show i.natAbs < 2 ^ 40 by omega)
      exact decide_eq_true (Nat.lt_trans z (by decide))
  lvs := decide_eq_true (PyData.shown_int_le (show i.natAbs < 10 ^ 12 by omega))
  wgt := by
    show (if i == 0 then 0 else i.natAbs.log2 + 1) ≤ k
    split
    · omega
    · have h0 : i.natAbs ≠ 0 := by
        rename_i h
        intro z
        apply h
        have : i = 0 := by omega
        rw [this]; rfl
      have := (Nat.log2_lt h0).mpr (show i.natAbs < 2 ^ 40 by omega)
      omega
theorem OkR.str {n k : Nat} {x : Str} (h : PyData.strOk x = true) (hl : (x.cps.toList.all fun c => decide (c < 16 ^ 8)) = true) (hk : x.cps.size ≤ k) : OkR n k (.str x) := ⟨h, rfl, hl, hk⟩
theorem OkR.bl {n k : Nat} {b : Bool} : OkR n k (.bl b) := ⟨rfl, rfl, rfl, Nat.zero_le _⟩
theorem OkR.non {n k : Nat} : OkR n k .non := ⟨rfl, rfl, rfl, Nat.zero_le _⟩
theorem okRs {n k : Nat} : ∀ {ds : List D}, (∀ d ∈ ds, OkR n k d) → okEs n ds = true ∧ PyData.showableAll (toPys ds) = true ∧ PyData.leavesShortAll 13 (toPys ds) = true ∧ PyData.weightAll (toPys ds) ≤ ds.length * (k + 1)
  | [], _ => ⟨rfl, rfl, rfl, by simp [toPys, PyData.weightAll]⟩
  | d :: ds, h => by
    obtain ⟨a, b, c, e⟩ := h d List.mem_cons_self
    obtain ⟨a2, b2, c2, e2⟩ := okRs fun x hx => h x (List.mem_cons_of_mem _ hx)
    refine ⟨?_, ?_, ?_, ?_⟩
    · show (okE n d && okEs n ds) = true
      rw [a, a2]; rfl
    · show (PyData.showable (toPy d) && PyData.showableAll (toPys ds)) = true
      rw [b, b2]; rfl
    · show (PyData.leavesShort 13 (toPy d) && PyData.leavesShortAll 13 (toPys ds)) = true
      rw [c, c2]; rfl
    · show PyData.weight (toPy d) + 1 + PyData.weightAll (toPys ds) ≤ (ds.length + 1) * (k + 1)
      rw [Nat.add_mul, Nat.one_mul]
      omega
theorem OkR.lst {n k j : Nat} {ds : List D} (h : ∀ d ∈ ds, OkR n k d) (hj : ds.length * (k + 1) ≤ j) : OkR (n + 1) j (.lst ds) := by
  obtain ⟨a, b, c, e⟩ := okRs h
  exact ⟨by show (decide (0 < n + 1) && okEs n ds) = true; rw [a]; simp, b, c, Nat.le_trans e hj⟩
theorem OkR.tup {n k j : Nat} {ds : List D} (h : ∀ d ∈ ds, OkR n k d) (hj : ds.length * (k + 1) ≤ j) : OkR (n + 1) j (.tup ds) := by
  obtain ⟨a, b, c, e⟩ := okRs h
  exact ⟨by show (decide (0 < n + 1) && okEs n ds) = true; rw [a]; simp, b, c, Nat.le_trans e hj⟩
/-! ### the law's own call, the surroundings known -/
/-- what the law's def promises where it is called from the judge's own place -/
def LawAt (P : Program) (w : World) (K : PySem.W.Frag) (mg : Str → Option Value) (base : Heap) (f : Addr) (fd : FuncData) (ps : List Str) (sp : Sp) : Prop :=
  ∀ (s : Shared) (H : Hp) (args : Args) (us : List Value) (vs : List V) (Q : VK) (E : XK), Env0 P w K mg base callerA [] s H → BindsTo s fd args (ps.zip us) → Vals vs us → sp vs H Q E →
    codeAny (model P w) callerA (.call (.ref f) args) (CR (L2.CX P w) [] P w H s Q E) s
section
variable {P : Program} {w : World} {K : PySem.W.Frag} {mg : Str → Option Value} {base : Heap}
theorem lawAt {x qual : Str} {st : Stmt} {f : Addr} {fd : FuncData} {N ps : List Str} {k : Nat} {sp : Sp} (F : Fun K x qual st f fd) (S : FnScope N ps (defScope st)) (len : ∀ vs H Q E, sp vs H Q E → vs.length = ps.length) (hr : Room (k + 1) callerA)
    (go : ∀ (cdv : Value) (s : Shared) (H : Hp) (vs : List V) (Q : VK) (E : XK), Room k (callerA.deeper (envOfC qual (defScope st) s.heap.objs.size f cdv)) → sp vs H Q E →
      ∃ t, PSs (cxOf (L2.CX P w) P w K mg base N qual (defScope st) f cdv callerA [] s H E) (defBody st) t ∧ t { nx := fun _ H' => Q .non H', rt := Q } (start N vs) H) : LawAt P w K mg base f fd ps sp := by
  intro s H args us vs Q E e0 bnd rs ask
  obtain ⟨oc, od, kV, doc, pm, an, cdv, ct, osl, rfl, found, coded⟩ := F.ex
  have inK : K.In s.heap := PySem.W.Frag.In.keeps e0.mod.kin fun b o e => (e0.bs b o e).1
  have free : s.heap.NoLimit := Heap.NoLimit.keeps e0.mod.nolimit fun b o e => (e0.bs b o e).1
  apply codeAny_call_function hr.depth (inK _ _ found) rfl S.co S.gen rfl (PySem.W.codeRec_of inK coded)
  apply bnd
  apply wpAny_newFunctionEnv_cells S.kind
  · rintro ⟨n, v⟩ hn
    rcases S.par n (List.of_mem_zip hn).1 with q | q
    · exact .inl q
    · exact .inr ⟨q, PySem.W.cellsFrom_some _ _ _ (.inl q)⟩
  · rintro _ rfl s1 inside
    refine ⟨free.keeps inside.toInCall.keep, codeAny_func ?_⟩
    obtain ⟨t, steps, told⟩ := go cdv s H vs Q E (hr.deeper _) ask
    have start1 := inv_start (CX := L2.CX P w) (E := E) S hr.hd e0 (len _ _ _ _ ask) rs inside
    refine wpAny_mono (steps.run [] s1 (L2.start N vs) H _ start1 told) ?_ fun e s' z => z
    intro fl s' z
    cases fl with
    | next =>
      obtain ⟨σ', H', J, q⟩ := z
      exact ⟨V.non, H', J.os, J.bare, J.base, J.hok, rfl, q⟩
    | ret u =>
      obtain ⟨v, σ', H', J, rv, q⟩ := z
      exact ⟨v, H', J.os, J.bare, J.base, J.hok, rv, q⟩
    | brk => exact z.choose_spec.choose_spec.2.elim
    | cont => exact z.choose_spec.choose_spec.2.elim
/-- from the reading on data -/
theorem lawAtD {x qual : Str} {st : Stmt} {f : Addr} {fd : FuncData} {N ps : List Str} {k : Nat} {C : DC} {W : DS} (F : Fun K x qual st f fd) (S : FnScope N ps (defScope st)) (hr : Room (k + 1) callerA)
    (hb : ∀ (cdv : Value) (A : Around) (outer : List PySem.Env) (s : Shared) (H : Hp) (E : XK), A.guards = some [] → Room k (A.deeper (envOfC qual (defScope st) s.heap.objs.size f cdv)) → JSs (cxOf (L2.CX P w) P w K mg base N qual (defScope st) f cdv A outer s H E) (wishE E) (defBody st) W)
    (hC : ∀ ds m Φ Ψ, ds.length = ps.length → C ds m Φ Ψ → W { nx := fun _ m' => Φ .non m', rt := Φ } (fun _ => Ψ) (ds.map some ++ List.replicate (N.length - ds.length) none) m) :
    LawAt P w K mg base f fd ps (spOf K ps.length C) := by
  refine lawAt F S (fun vs H Q E h => h.1) hr fun cdv s H vs Q E hr h => ⟨_, hb cdv callerA [] s H E rfl hr, ?_⟩
  obtain ⟨hl, w0, ds, m, Φ, Ψ, h0, r, vl, xl, c⟩ := h
  refine ⟨w0, _, m, fun _ => Ψ, _, ⟨h0, slots_start r, fun ρ σ w1 l1 _ C fs m' w' H' d xs l a b c q => xl C fs m' w' H' d xs (l1.trans l) a b c q⟩, ?_, hC ds m Φ Ψ (r.length.symm.trans hl) c⟩
  exact ⟨fun ρ m' w' H' σ l h' _ q => vl .non m' w' H' _ l h' rfl q, vl, fun _ _ _ _ _ _ _ _ q => q.elim, fun _ _ _ _ _ _ _ _ q => q.elim⟩
/-- the script's place in the tracked heap: tracked unless it is one of the module's own -/
def scriptH (K : PySem.W.Frag) (a : Addr) (vs : List Value) (ns : List Int) : Hp := fun b => if b = a ∧ K.lookup a = none then some (.frz { cls := .type "list", data := .seq vs.toArray } (.lst (ns.map V.int))) else none
theorem scriptH_some {a b : Addr} {vs : List Value} {ns : List Int} {o : HO} (h : scriptH K a vs ns b = some o) : b = a ∧ K.lookup a = none ∧ o = .frz { cls := .type "list", data := .seq vs.toArray } (.lst (ns.map V.int)) := by
  unfold scriptH at h
  split at h
  · rename_i c
    cases h
    exact ⟨c.1, c.2, rfl⟩
  · cases h
theorem law_start {mb : Str → Option Value} {a : Addr} {s : Shared} {vs : List Value} {ns : List Int} (KX : K.In s.heap) (hns : s.heap.Ns mainGlobals mg) (hb : s.heap.Ns builtinsNs mb) (hbb : ∀ x : Str, x ≠ "__name__" → mb x = bootBuiltins x)
    (free : s.heap.NoLimit) (hg : s.gens = #[]) (ha : s.heap.get? a = some { cls := .type "list", data := .seq vs.toArray }) (hi : IntsAre vs ns) (hl : ns.length ≤ sizeLine) :
    SqL K (scriptH K a vs ns) a (ns.map V.int) ∧ Env0 P w K mg (hidT s.heap (scriptH K a vs ns)) callerA [] s (scriptH K a vs ns) ∧
      ∀ u s', CE [] P w (scriptH K a vs ns) s (fun v _ => v = .bl true) u s' → u = .bool true ∧ OldK s.heap s'.heap ∧ s'.os = s.os ∧ AllBare s'.gens := by
  have told := vals_ints hi
  have many := hi.length
  have objA : HOk P w (scriptH K a vs ns) s.heap := fun b o e => by
    obtain ⟨rfl, _, rfl⟩ := scriptH_some e
    exact ⟨ha, by rw [List.length_map]; exact hl, vs, _, told, ha⟩
  have stays : ∀ {b : Addr} {m : Str → Option Value}, s.heap.Ns b m → (hidT s.heap (scriptH K a vs ns)).Ns b m := fun {b m} n => by
    obtain ⟨o, es, ep, e, d, rest⟩ := n
    refine ⟨o, es, ep, hidT_get e ?_, d, rest⟩
    cases z : scriptH K a vs ns b with
    | none => rfl
    | some t =>
      obtain ⟨rfl, _⟩ := scriptH_some z
      rw [ha] at e
      cases e
      cases d
  refine ⟨?_, ⟨rfl, ⟨?_, stays hns, ⟨mb, stays hb, hbb⟩, ?_⟩, fun b o e => of_hidT e, Nat.le_of_eq (hidT_size _ _), trivial, fun b z => absurd z (by simp [frs]), objA, .of_eq hg⟩, ?_⟩
  · cases z : K.lookup a with
    | none => exact .inl (.inr ⟨_, if_pos ⟨rfl, z⟩⟩)
    | some o =>
      have e := KX a o z
      rw [ha] at e
      cases e
      exact .inr ⟨_, vs.toArray, _, z, rfl, rfl, rfl, by rw [List.size_toArray, many]; exact hl, by simpa using told⟩
  · intro b o e
    refine hidT_get (KX b o e) ?_
    cases z : scriptH K a vs ns b with
    | none => rfl
    | some t =>
      obtain ⟨rfl, z2, _⟩ := scriptH_some z
      rw [z2] at e
      cases e
  · obtain ⟨mc, h1, h2⟩ := free
    exact ⟨mc, stays h1, h2⟩
  · rintro u s' ⟨v, H', os, bare, un, hok', r, rfl⟩
    refine ⟨r, OldK.of_keep fun b o e => ?_, os, bare⟩
    cases z : scriptH K a vs ns b with
    | none => exact un.keep b o e z (fun z => absurd z (by simp [frs])) (by simp)
    | some t =>
      obtain ⟨rfl, _, rfl⟩ := scriptH_some z
      have kept := (hok' b _ (un.frzs b _ _ z)).1
      rw [ha] at e
      cases e
      exact kept
end
/-! ### odds and ends -/
theorem room_un {k : Nat} {A : Around} (r : Room k A) : A.units + 100 < cLine := by have := r.un; omega
/-- one statement at a time: what follows is held back -/
theorem dSeq_k {a b : DS} {N : DN} {Ψ : XS} {ρ : Dl.Env} {m : MM} (h : ∀ k : Dl.Env → MM → Prop, k = b N Ψ → a { N with nx := k } Ψ ρ m) : dSeq a b N Ψ ρ m := h _ rfl
/-- two strings, whatever they hold -/
def oEqS : DO := fun x y m Φ => match x, y with
  | .str a, .str b => Φ (.bl (decide (a = b))) m
  | _, _ => False
theorem opl_eqS {K : PySem.W.Frag} : OpL K rEq oEqS := fun w m H x y u v Q Φ h r1 r2 vl q => by
  unfold oEqS at q
  split at q
  · cases (show u = V.str _ from r1)
    cases (show v = V.str _ from r2)
    refine ⟨rfl, ?_⟩
    rw [show decide (V.str _ = V.str _) = decide (_ = _) from decide_eq_decide.mpr ⟨fun e => V.str.inj e, fun e => congrArg V.str e⟩]
    exact vl.bl h q
  · exact q.elim
end Dl

namespace Dl
/-! ### primes -/
structure Prim (p : Int) : Prop where
  two : 2 ≤ p
  euc : ∀ a b : Int, p ∣ a * b → p ∣ a ∨ p ∣ b
/-- no number from lo to lo + 2^k - 1 whose square is at most p divides p -/
def noDiv (p : Nat) : Nat → Nat → Bool
  | lo, 0 => (p % lo != 0) || decide (p < lo * lo)
  | lo, k + 1 => noDiv p lo k && noDiv p (lo + 2 ^ k) k
theorem noDiv_ok {p : Nat} : ∀ (k lo : Nat), noDiv p lo k = true → ∀ d, lo ≤ d → d < lo + 2 ^ k → d * d ≤ p → ¬ d ∣ p
  | 0, lo, h, d, h1, h2, h3 => by
    intro h4
    have e : d = lo := by omega
    subst e
    unfold noDiv at h
    have : p % d = 0 := Nat.mod_eq_zero_of_dvd h4
    simp only [this, bne_self_eq_false, Bool.false_or, decide_eq_true_eq] at h
    omega
  | k + 1, lo, h, d, h1, h2, h3 => by
    have h : (noDiv p lo k && noDiv p (lo + 2 ^ k) k) = true := h
    rw [Bool.and_eq_true] at h
    rw [Nat.pow_succ] at h2
    by_cases hd : d < lo + 2 ^ k
    · exact noDiv_ok k lo h.1 d h1 hd h3
    · exact noDiv_ok k (lo + 2 ^ k) h.2 d (by omega) (by omega) h3
theorem prime_nat {p k : Nat} (hp : 2 ≤ p) (hp2 : p < (2 + 2 ^ k) * (2 + 2 ^ k)) (h : noDiv p 2 k = true) : ∀ d, d ∣ p → d = 1 ∨ d = p := by
  intro d hd
  have h0 : 0 < d := Nat.pos_of_dvd_of_pos hd (by omega)
  obtain ⟨e, he⟩ := hd
  by_cases h1 : d = 1
  · exact .inl h1
  by_cases h2 : e = 1
  · exact .inr (by rw [he, h2, Nat.mul_one])
  have e0 : 0 < e := by
    rcases Nat.eq_zero_or_pos e with z | z
    · rw [z, Nat.mul_zero] at he; omega
    · exact z
  have small : ∀ x y : Nat, 2 ≤ x → x ≤ y → p = x * y → False := fun x y hx hxy hxe => by
    have hs : x * x ≤ p := by rw [hxe]; exact Nat.mul_le_mul_left _ hxy
    have hlt : x < 2 + 2 ^ k := by
      rcases Nat.lt_or_ge x (2 + 2 ^ k) with z | z
      · exact z
      · have := Nat.mul_le_mul z z
        omega
    exact noDiv_ok k 2 h x hx hlt hs ⟨y, hxe⟩
  rcases Nat.le_total d e with z | z
  · exact (small d e (by omega) z he).elim
  · exact (small e d (by omega) z (by rw [he, Nat.mul_comm])).elim
theorem prim_of {p : Nat} (hp : 2 ≤ p) (h : ∀ d, d ∣ p → d = 1 ∨ d = p) : Prim (p : Int) := by
  refine ⟨by omega, fun a b hab => ?_⟩
  have hn : p ∣ a.natAbs * b.natAbs := by
    have z := Int.natAbs_dvd_natAbs.mpr hab
    rw [Int.natAbs_mul] at z
    exact z
  rcases h _ (Nat.gcd_dvd_left p a.natAbs) with z | z
  · exact .inr (Int.natAbs_dvd_natAbs.mp (Nat.Coprime.dvd_of_dvd_mul_left z hn))
  · refine .inl (Int.natAbs_dvd_natAbs.mp ?_)
    have g := Nat.gcd_dvd_right p a.natAbs
    rw [z] at g
    exact g
theorem prim_chk {p k : Nat} (h : (decide (2 ≤ p) && decide (p < (2 + 2 ^ k) * (2 + 2 ^ k)) && noDiv p 2 k) = true) : Prim (p : Int) := by
  simp only [Bool.and_eq_true, decide_eq_true_eq] at h
  exact prim_of h.1.1 (prime_nat h.1.1 h.1.2 h.2)
theorem prim_M : Prim 2147483647 := prim_chk (p := 2147483647) (k := 16) (by decide +kernel)
theorem prim_65537 : Prim 65537 := prim_chk (p := 65537) (k := 8) (by decide +kernel)
theorem prim_97 : Prim 97 := prim_chk (p := 97) (k := 4) (by decide +kernel)
theorem prim_7 : Prim 7 := prim_chk (p := 7) (k := 1) (by decide +kernel)
theorem prim_5 : Prim 5 := prim_chk (p := 5) (k := 1) (by decide +kernel)
theorem prim_3 : Prim 3 := prim_chk (p := 3) (k := 1) (by decide +kernel)
theorem prim_2 : Prim 2 := prim_chk (p := 2) (k := 1) (by decide +kernel)

/-! ### remainders by a prime -/
theorem Cg.iff_dvd {p a b : Int} : Cg p a b ↔ p ∣ a - b := Int.emod_eq_emod_iff_emod_sub_eq_zero.trans ⟨Int.dvd_of_emod_eq_zero, Int.emod_eq_zero_of_dvd⟩
theorem Cg.zero_iff {p a : Int} : Cg p a 0 ↔ p ∣ a := by
  rw [Cg.iff_dvd, Int.sub_zero]
theorem Cg.pow {p a b : Int} (h : Cg p a b) : ∀ n : Nat, Cg p (a ^ n) (b ^ n)
  | 0 => by rw [Int.pow_zero, Int.pow_zero]; exact .refl
  | n + 1 => by
    rw [Int.pow_succ, Int.pow_succ]
    exact (Cg.pow h n).mul h
theorem Prim.cancel {p a b c : Int} (P : Prim p) (h : Cg p (a * b) (a * c)) (ha : ¬ Cg p a 0) : Cg p b c := by
  rw [Cg.iff_dvd, ← Int.mul_sub] at h
  rcases P.euc _ _ h with z | z
  · exact absurd (Cg.zero_iff.mpr z) ha
  · exact Cg.iff_dvd.mpr z
theorem Prim.mul_zero {p a b : Int} (P : Prim p) (h : Cg p (a * b) 0) : Cg p a 0 ∨ Cg p b 0 := by
  rw [Cg.zero_iff, Cg.zero_iff]
  exact P.euc _ _ (Cg.zero_iff.mp h)
theorem Prim.one_ne {p : Int} (P : Prim p) : ¬ Cg p 1 0 := fun h => by
  have := P.two
  have h := Int.le_of_dvd (by decide) (Cg.zero_iff.mp h)
  omega
/-- two numbers near each other -/
theorem near_ne {p i j : Int} (h1 : i ≠ j) (h2 : i - j < p) (h3 : j - i < p) : ¬ Cg p (i - j) 0 := fun h => by
  obtain ⟨c, hc⟩ := Cg.zero_iff.mp h
  rcases Int.lt_trichotomy c 0 with z | z | z
  · have : p * c ≤ p * (-1) := Int.mul_le_mul_of_nonneg_left (by omega) (by omega)
    omega
  · rw [z, Int.mul_zero] at hc; omega
  · have : p * 1 ≤ p * c := Int.mul_le_mul_of_nonneg_left (by omega) (by omega)
    omega

/-! ### the small theorem of Fermat -/
def choose : Nat → Nat → Nat
  | _, 0 => 1
  | 0, _ + 1 => 0
  | n + 1, k + 1 => choose n k + choose n (k + 1)
theorem choose_big : ∀ (n k : Nat), n < k → choose n k = 0
  | 0, k + 1, _ => rfl
  | n + 1, k + 1, h => by
    show choose n k + choose n (k + 1) = 0
    rw [choose_big n k (by omega), choose_big n (k + 1) (by omega)]
theorem choose_self : ∀ n : Nat, choose n n = 1
  | 0 => rfl
  | n + 1 => by
    show choose n n + choose n (n + 1) = 1
    rw [choose_self n, choose_big n (n + 1) (by omega)]
theorem choose_abs : ∀ (n k : Nat), (k + 1) * choose (n + 1) (k + 1) = (n + 1) * choose n k
  | 0, 0 => rfl
  | 0, k + 1 => by
    show (k + 1 + 1) * (choose 0 (k + 1) + choose 0 (k + 1 + 1)) = (0 + 1) * choose 0 (k + 1)
    rw [choose_big 0 (k + 1) (by omega), choose_big 0 (k + 1 + 1) (by omega)]; simp
  | n + 1, 0 => by
    have h := choose_abs n 0
    show (0 + 1) * (choose (n + 1) 0 + choose (n + 1) (0 + 1)) = (n + 1 + 1) * 1
    have e : choose (n + 1) 0 = 1 := by unfold choose; rfl
    have e2 : choose n 0 = 1 := by cases n <;> rfl
    rw [e2] at h
    rw [e]; omega
  | n + 1, k + 1 => by
    have h1 := choose_abs n k
    have h2 := choose_abs n (k + 1)
    show (k + 1 + 1) * (choose (n + 1) (k + 1) + choose (n + 1) (k + 1 + 1)) = (n + 1 + 1) * choose (n + 1) (k + 1)
    have h3 : choose (n + 1) (k + 1) = choose n k + choose n (k + 1) := rfl
    rw [Nat.mul_add, h2]
    have e1 : (k + 1 + 1) * choose (n + 1) (k + 1) = (k + 1) * choose (n + 1) (k + 1) + choose (n + 1) (k + 1) := by rw [Nat.add_mul (k + 1), Nat.one_mul]
    have e2 : (n + 1 + 1) * choose (n + 1) (k + 1) = (n + 1) * choose (n + 1) (k + 1) + choose (n + 1) (k + 1) := by rw [Nat.add_mul (n + 1), Nat.one_mul]
    rw [e1, e2, h1]
    have e3 : (n + 1) * choose (n + 1) (k + 1) = (n + 1) * choose n k + (n + 1) * choose n (k + 1) := by rw [h3, Nat.mul_add]
    omega
theorem S_add {f g : Nat → Int} : ∀ n : Nat, S n (fun i => f i + g i) = S n f + S n g
  | 0 => rfl
  | n + 1 => by
    show S n (fun i => f i + g i) + (f n + g n) = S n f + f n + (S n g + g n)
    rw [S_add n]; omega
theorem S_mul {c : Int} {f : Nat → Int} : ∀ n : Nat, S n (fun i => c * f i) = c * S n f
  | 0 => by show (0 : Int) = c * 0; omega
  | n + 1 => by
    show S n (fun i => c * f i) + c * f n = c * (S n f + f n)
    rw [S_mul n, Int.mul_add]
theorem binom (a : Int) : ∀ n : Nat, (a + 1) ^ n = S (n + 1) fun k => (choose n k : Int) * a ^ k
  | 0 => by
    show (a + 1) ^ 0 = 0 + ((1 : Nat) : Int) * a ^ 0
    rw [Int.pow_zero, Int.pow_zero]; rfl
  | n + 1 => by
    rw [Int.pow_succ, binom a n, Int.mul_add, Int.mul_one, S_head (n + 1)]
    have e0 : ((choose (n + 1) 0 : Nat) : Int) * a ^ 0 = 1 := by
      have : choose (n + 1) 0 = 1 := by unfold choose; rfl
      rw [this, Int.pow_zero]; rfl
    rw [e0]
    have e1 : (S (n + 1) fun k => ((choose (n + 1) (k + 1) : Nat) : Int) * a ^ (k + 1)) = (S (n + 1) fun k => (choose n k : Int) * a ^ (k + 1)) + S (n + 1) fun k => (choose n (k + 1) : Int) * a ^ (k + 1) := by
      rw [← S_add]
      refine S_eq _ fun k _ => ?_
      show (((choose n k + choose n (k + 1) : Nat)) : Int) * a ^ (k + 1) = _
      rw [Int.natCast_add, Int.add_mul]
    have e2 : (S (n + 1) fun k => (choose n k : Int) * a ^ (k + 1)) = (S (n + 1) fun k => (choose n k : Int) * a ^ k) * a := by
      rw [Int.mul_comm _ a, ← S_mul]
      refine S_eq _ fun k _ => ?_
      show _ = a * ((choose n k : Int) * a ^ k)
      rw [Int.pow_succ]
      grind
    have e3 : (S (n + 1) fun k => (choose n (k + 1) : Int) * a ^ (k + 1)) + 1 = S (n + 1) fun k => (choose n k : Int) * a ^ k := by
      show (S n fun k => (choose n (k + 1) : Int) * a ^ (k + 1)) + ((choose n (n + 1) : Nat) : Int) * a ^ (n + 1) + 1 = _
      rw [choose_big n (n + 1) (by omega), S_head n]
      have : ((choose n 0 : Nat) : Int) * a ^ 0 = 1 := by
        have : choose n 0 = 1 := by cases n <;> rfl
        rw [this, Int.pow_zero]; rfl
      rw [this]
      show _ + (0 : Int) * a ^ (n + 1) + 1 = _
      omega
    rw [e1, e2]
    omega
theorem Prim.choose {p k : Nat} (P : Prim (p : Int)) (h0 : 0 < k) (h1 : k < p) : Cg (p : Int) (choose p k : Int) 0 := by
  obtain ⟨k, rfl⟩ : ∃ j, k = j + 1 := ⟨k - 1, by omega⟩
  obtain ⟨q, rfl⟩ : ∃ q, p = q + 1 := ⟨p - 1, by omega⟩
  have e := choose_abs q k
  have d : ((q + 1 : Nat) : Int) ∣ ((k + 1 : Nat) : Int) * (Dl.choose (q + 1) (k + 1) : Int) := by
    rw [← Int.natCast_mul, e, Int.natCast_mul]
    exact Int.dvd_mul_right _ _
  rcases P.euc _ _ d with z | z
  · have := Int.le_of_dvd (by omega) z
    omega
  · exact Cg.zero_iff.mpr z
theorem fermat_succ {p : Nat} (P : Prim (p : Int)) (a : Int) : Cg (p : Int) ((a + 1) ^ p) (a ^ p + 1) := by
  rw [binom]
  obtain ⟨q, rfl⟩ : ∃ q, p = q + 1 := ⟨p - 1, by have := P.two; omega⟩
  rw [S_head]
  show Cg _ (((Dl.choose (q + 1) 0 : Nat) : Int) * a ^ 0 + ((S q fun k => (Dl.choose (q + 1) (k + 1) : Int) * a ^ (k + 1)) + ((Dl.choose (q + 1) (q + 1) : Nat) : Int) * a ^ (q + 1))) _
  rw [choose_self]
  have e0 : ((Dl.choose (q + 1) 0 : Nat) : Int) * a ^ 0 = 1 := by
    have : Dl.choose (q + 1) 0 = 1 := by unfold Dl.choose; rfl
    rw [this, Int.pow_zero]; rfl
  rw [e0]
  have z : Cg ((q + 1 : Nat) : Int) (S q fun k => (Dl.choose (q + 1) (k + 1) : Int) * a ^ (k + 1)) (S q fun _ => 0) := S_cg q fun k hk => by
    have := (P.choose (k := k + 1) (by omega) (by omega)).mul (Cg.refl (a := a ^ (k + 1)))
    rw [Int.zero_mul] at this
    exact this
  have z0 : ∀ n, S n (fun _ => 0) = 0 := fun n => by
    induction n with
    | zero => rfl
    | succ n ih => show S n _ + 0 = 0; rw [ih]; rfl
  rw [z0] at z
  refine (Cg.add .refl (z.add .refl)).trans (.of_eq ?_)
  show (1 : Int) + (0 + ((1 : Nat) : Int) * a ^ (q + 1)) = _
  omega
theorem fermat_nat {p : Nat} (P : Prim (p : Int)) : ∀ n : Nat, Cg (p : Int) ((n : Int) ^ p) n
  | 0 => by
    have : ((0 : Nat) : Int) ^ p = 0 := by
      obtain ⟨q, rfl⟩ : ∃ q, p = q + 1 := ⟨p - 1, by have := P.two; omega⟩
      rw [Int.pow_succ]
      exact Int.mul_zero _
    rw [this]; exact .refl
  | n + 1 => by
    rw [Int.natCast_add]
    exact (fermat_succ P n).trans ((fermat_nat P n).add .refl)
theorem fermat {p : Nat} (P : Prim (p : Int)) (a : Int) : Cg (p : Int) (a ^ p) a := by
  have hp := P.two
  have h : a % (p : Int) = ((a % (p : Int)).toNat : Int) := (Int.toNat_of_nonneg (Int.emod_nonneg _ (by omega))).symm
  have e : Cg (p : Int) (((a % (p : Int)).toNat : Nat) : Int) a := by
    rw [← h]
    exact .mod
  exact (e.symm.pow p).trans ((fermat_nat P _).trans e)
/-- the inverse by a power -/
theorem fermat_inv {p : Int} (P : Prim p) {a : Int} (h : ¬ Cg p a 0) : Cg p (a ^ (p - 2).toNat * a) 1 := by
  have hp := P.two
  obtain ⟨n, rfl⟩ := Int.eq_ofNat_of_zero_le (show 0 ≤ p by omega)
  have e : ((n : Int) - 2).toNat + 1 + 1 = n := by omega
  have f := fermat P a
  rw [← e, Int.pow_succ, Int.pow_succ] at f
  refine P.cancel (a := a) ?_ h
  rw [Int.mul_one, Int.mul_comm a]
  rw [e] at f
  exact f
end Dl

namespace Dl
/-! ### polynomials by their coefficients -/
def pev : List Int → Int → Int
  | [], _ => 0
  | c :: cs, t => c + t * pev cs t
/-- the values of the ends -/
def syn (a : Int) : List Int → List Int
  | [] => []
  | c :: cs => pev (c :: cs) a :: syn a cs
theorem syn_len (a : Int) : ∀ cs : List Int, (syn a cs).length = cs.length
  | [] => rfl
  | c :: cs => by
    show (syn a cs).length + 1 = cs.length + 1
    rw [syn_len a cs]
theorem syn_div (a t : Int) : ∀ (c : Int) (cs : List Int), pev (c :: cs) t - pev (c :: cs) a = (t - a) * pev (syn a cs) t
  | c, [] => by
    show c + t * 0 - (c + a * 0) = (t - a) * 0
    omega
  | c, d :: ds => by
    have ih := syn_div a t d ds
    show c + t * pev (d :: ds) t - (c + a * pev (d :: ds) a) = (t - a) * (pev (d :: ds) a + t * pev (syn a ds) t)
    have e : t * ((t - a) * pev (syn a ds) t) = t * (pev (d :: ds) t - pev (d :: ds) a) := by rw [ih]
    grind
/-- all numbers of the list are 0 but for multiples of p -/
def Zer (p : Int) (cs : List Int) : Prop := ∀ c ∈ cs, Cg p c 0
theorem Zer.pev {p : Int} {cs : List Int} (h : Zer p cs) (t : Int) : Cg p (pev cs t) 0 := by
  induction cs with
  | nil => exact .refl
  | cons c cs ih =>
    have h1 := (h c List.mem_cons_self).add ((Cg.refl (a := t)).mul (ih fun x hx => h x (List.mem_cons_of_mem _ hx)))
    rw [Int.mul_zero] at h1
    exact h1
theorem Zer.of_syn {p a : Int} : ∀ {cs : List Int}, Zer p (syn a cs) → Zer p cs
  | [], _ => fun _ h => nomatch h
  | c :: cs, h => by
    have ih := Zer.of_syn (cs := cs) fun x hx => h x (List.mem_cons_of_mem _ hx)
    intro x hx
    rcases List.mem_cons.mp hx with rfl | hx
    · have h1 : Cg p (x + a * Dl.pev cs a) 0 := h _ List.mem_cons_self
      have h2 := (Cg.refl (a := a)).mul (ih.pev a)
      rw [Int.mul_zero] at h2
      have h3 := h1.sub h2
      rw [show x + a * Dl.pev cs a - a * Dl.pev cs a = x by omega] at h3
      exact h3
    · exact ih x hx
/-- as many roots as coefficients: nothing is left -/
theorem roots_zero {p : Int} (P : Prim p) : ∀ (xs cs : List Int), xs.Pairwise (fun x y => ¬ Cg p (x - y) 0) → cs.length ≤ xs.length → (∀ x ∈ xs, Cg p (pev cs x) 0) → Zer p cs
  | _, [], _, _, _ => fun _ h => nomatch h
  | [], c :: cs, _, h, _ => by simp at h
  | x :: xs, c :: cs, hd, hl, hr => by
    rw [List.pairwise_cons] at hd
    have hx := hr x List.mem_cons_self
    have hs : Zer p (syn x cs) := roots_zero P xs (syn x cs) hd.2 (by rw [syn_len]; simpa using hl) fun y hy => by
      have h1 := (hr y (List.mem_cons_of_mem _ hy)).sub hx
      rw [syn_div] at h1
      rcases P.mul_zero h1 with z | z
      · have z2 := z.neg
        rw [show -(y - x) = x - y by omega] at z2
        exact absurd z2 (hd.1 y hy)
      · exact z
    have hz := Zer.of_syn hs
    intro y hy
    rcases List.mem_cons.mp hy with rfl | hy
    · have h2 := (Cg.refl (a := x)).mul (hz.pev x)
      rw [Int.mul_zero] at h2
      have h1 : Cg p (y + x * pev cs x) 0 := hx
      have h3 := h1.sub h2
      rw [show y + x * pev cs x - x * pev cs x = y by omega] at h3
      exact h3
    · exact hz y hy
def padd : List Int → List Int → List Int
  | [], ds => ds
  | cs, [] => cs
  | c :: cs, d :: ds => (c + d) :: padd cs ds
theorem padd_pev (t : Int) : ∀ cs ds : List Int, pev (padd cs ds) t = pev cs t + pev ds t
  | [], ds => by
    show pev ds t = 0 + pev ds t
    omega
  | c :: cs, [] => by
    show pev (c :: cs) t = pev (c :: cs) t + 0
    omega
  | c :: cs, d :: ds => by
    show c + d + t * pev (padd cs ds) t = c + t * pev cs t + (d + t * pev ds t)
    rw [padd_pev t cs ds, Int.mul_add]; omega
theorem padd_len : ∀ cs ds : List Int, (padd cs ds).length = max cs.length ds.length
  | [], ds => by simp [padd]
  | c :: cs, [] => by simp [padd]
  | c :: cs, d :: ds => by
    show (padd cs ds).length + 1 = max (cs.length + 1) (ds.length + 1)
    rw [padd_len cs ds]; omega
theorem pmul_pev (a t : Int) : ∀ cs : List Int, pev (cs.map fun c => a * c) t = a * pev cs t
  | [] => by show (0 : Int) = a * 0; omega
  | c :: cs => by
    show a * c + t * pev (cs.map fun c => a * c) t = a * (c + t * pev cs t)
    rw [pmul_pev a t cs, Int.mul_add, ← Int.mul_assoc, ← Int.mul_assoc, Int.mul_comm t a]
/-- f is a polynomial of degree at most n, but for multiples of p -/
def Pol (p : Int) (n : Nat) (f : Int → Int) : Prop := ∃ cs : List Int, cs.length ≤ n + 1 ∧ ∀ t, Cg p (f t) (pev cs t)
section
variable {p : Int} {n m : Nat} {f g : Int → Int}
theorem Pol.const (c : Int) : Pol p n (fun _ => c) := ⟨[c], by simp, fun t => .of_eq (by show c = c + t * 0; omega)⟩
theorem Pol.mono (h : Pol p n f) (l : n ≤ m) : Pol p m f := by
  obtain ⟨cs, h1, h2⟩ := h
  exact ⟨cs, by omega, h2⟩
theorem Pol.congr (h : Pol p n f) (e : ∀ t, Cg p (g t) (f t)) : Pol p n g := by
  obtain ⟨cs, h1, h2⟩ := h
  exact ⟨cs, h1, fun t => (e t).trans (h2 t)⟩
theorem Pol.add (h : Pol p n f) (k : Pol p n g) : Pol p n fun t => f t + g t := by
  obtain ⟨cs, h1, h2⟩ := h
  obtain ⟨ds, k1, k2⟩ := k
  exact ⟨padd cs ds, by rw [padd_len]; omega, fun t => by rw [padd_pev]; exact (h2 t).add (k2 t)⟩
theorem Pol.smul (a : Int) (h : Pol p n f) : Pol p n fun t => a * f t := by
  obtain ⟨cs, h1, h2⟩ := h
  exact ⟨cs.map fun c => a * c, by rw [List.length_map]; exact h1, fun t => by rw [pmul_pev]; exact Cg.mul .refl (h2 t)⟩
theorem Pol.sub (h : Pol p n f) (k : Pol p n g) : Pol p n fun t => f t - g t :=
  (h.add (k.smul (-1))).congr fun t => .of_eq (by omega)
theorem Pol.tmul (h : Pol p n f) : Pol p (n + 1) fun t => t * f t := by
  obtain ⟨cs, h1, h2⟩ := h
  exact ⟨0 :: cs, by simpa using h1, fun t => (Cg.mul .refl (h2 t)).trans (.of_eq (by show t * pev cs t = 0 + t * pev cs t; omega))⟩
theorem Pol.lin (a b : Int) (h : Pol p n f) : Pol p (n + 1) fun t => (a + b * t) * f t :=
  ((h.smul a).mono (Nat.le_succ n) |>.add (h.tmul.smul b)).congr fun t => .of_eq (by rw [Int.add_mul, Int.mul_assoc])
theorem Pol.sum {F : Nat → Int → Int} : ∀ k : Nat, (∀ i < k, Pol p n (F i)) → Pol p n fun t => S k fun i => F i t
  | 0, _ => .const 0
  | k + 1, h => (Pol.sum k fun i hi => h i (by omega)).add (h k (by omega))
theorem Pol.pev (cs : List Int) (h : cs.length ≤ n + 1) : Pol p n (Dl.pev cs) := ⟨cs, h, fun _ => .refl⟩
/-- equal at n + 1 places: equal everywhere -/
theorem Pol.ext (P : Prim p) (h : Pol p n f) (k : Pol p n g) (xs : List Int) (hd : xs.Pairwise (fun x y => ¬ Cg p (x - y) 0)) (hl : n + 1 ≤ xs.length) (e : ∀ x ∈ xs, Cg p (f x) (g x)) (t : Int) : Cg p (f t) (g t) := by
  obtain ⟨cs, h1, h2⟩ := h.sub k
  have z := roots_zero P xs cs hd (by omega) fun x hx => by
    have := (e x hx).sub (Cg.refl (a := g x))
    rw [Int.sub_self] at this
    exact (h2 x).symm.trans this
  have w := ((h2 t).trans (z.pev t)).add (Cg.refl (a := g t))
  rw [show f t - g t + g t = f t by omega, Int.zero_add] at w
  exact w
end
/-! ### Lagrange -/
/-- the product of t - j over all j < n but k -/
def above (k : Nat) (t : Int) : Nat → Int
  | 0 => 1
  | j + 1 => if j = k then above k t j else above k t j * (t - (j : Nat))
theorem above_zero {k i : Nat} (hik : i ≠ k) : ∀ n : Nat, i < n → above k (i : Nat) n = 0
  | n + 1, h => by
    unfold above
    by_cases hk : n = k
    · rw [if_pos hk]
      exact above_zero hik n (by omega)
    · rw [if_neg hk]
      by_cases hi : i = n
      · rw [hi, Int.sub_self, Int.mul_zero]
      · rw [above_zero hik n (by omega), Int.zero_mul]
theorem above_ne {p : Int} (P : Prim p) {k : Nat} : ∀ n : Nat, ((n : Nat) : Int) ≤ p → (k : Int) < p → ¬ Cg p (above k (k : Nat) n) 0
  | 0, _, _ => P.one_ne
  | n + 1, h, hk => by
    unfold above
    by_cases e : n = k
    · rw [if_pos e]
      exact above_ne P n (by omega) hk
    · rw [if_neg e]
      intro z
      rcases P.mul_zero z with z | z
      · exact above_ne P n (by omega) hk z
      · exact near_ne (by omega) (by omega) (by omega) z
/-! ### more of reading -/
theorem All2.all {α : Type} {P : Int → Prop} {xs : List α} {ys : List Int} (h : All2 (fun _ y => P y) xs ys) : ∀ y ∈ ys, P y := by
  induction h with
  | nil => intro y hy; cases hy
  | cons h _ ih =>
    intro y hy
    rcases List.mem_cons.mp hy with rfl | hy
    · exact h
    · exact ih y hy
end Dl

namespace Dl
open PySem L2
/-! ### a list over and over -/
theorem repAll_many {K : PySem.W.Frag} {w : Wd} {ds : List D} {vs : List V} (r : RepAll K w ds vs) : ∀ k : Nat, RepAll K w (List.replicate k ds).flatten (List.replicate k vs).flatten
  | 0 => rfl
  | k + 1 => by
    rw [List.replicate_succ, List.replicate_succ, List.flatten_cons, List.flatten_cons]
    exact r.append (repAll_many r k)
end Dl

namespace Dl
open PySem L2
/-! ### the drawing state of the other kind: a row of numbers, the first a place in it -/
section
variable {K : PySem.W.Frag} {w : Wd} {m : MM} {H : Hp} {A c : Addr}
end
section
variable {P : Program} {w : World} {K : PySem.W.Frag} {mg : Str → Option Value} {base : Heap} {x : Str} {lv : Nat} {ps : List Str}
end
local macro_rules | `(tactic| walk_at "dl") => `(tactic| try simp only [dSeq, dSet, dOp, dUn, dVar, dC, dCB, dCons, dNil, dRet, dRetN, dIf, dB, dAnd, dOr, dNot, dDrop, dNext, dMethL, dSetIx, dAndV, dOrV, dNotV, dBlV, dIfE, dLst, dTup, dLstM, dCall, dChain, dAsg, dgName, dgTup, bindD, asT, dFor, diList, diRng1, diRng2, diEnumerate, diZip, diReversed, dLc, dLcM, dYes, wipeD, dAug, dSl, dpN, dpS,
  oI, oI0, oB0, oAdd, oNeg, oEq, oNe, oIx, oIsN, oNotN, isNon, oShl, oApp, oPop, oPopAt, cLen, cInt, cAbs, cSum, cMax2, cMin2, cList, cIsi, tyD, asL, asF, asK, moL_lst, ModC, DivC,
  List.getElem?_cons_zero, List.getElem?_cons_succ, List.set_cons_zero, List.set_cons_succ, List.getElem?_nil, List.length_cons, List.length_nil, List.length_map, Option.map_some, Option.bind_some, Option.isSome_some, if_true, true_and, and_true, MM.push])
end Dl

namespace Dl
open PySem L2
/-! ### an own list that will not change any more -/
/-- from here on slot i's list is like a written one -/
def dFrz (i : Nat) (a : DS) : DS := fun N Ψ ρ m => match ρ[i]? with
  | some (some (.hnd k)) => match moL m.M[k]? with
    | some ds => a N Ψ (ρ.set i (some (.lst ds))) ⟨m.M.set k .dead, m.s⟩
    | none => False
  | _ => False
theorem moL_some {o : Option MO} {ds : List D} (h : moL o = some ds) : o = some (.lst ds) := by
  cases o with
  | none => cases h
  | some o =>
    cases o with
    | lst es =>
      have h : some es = some ds := h
      cases h; rfl
    | ins C fs => cases h
    | dead => cases h
theorem js_frz {X : Cx} {E : WX} {st : Stmt} {W : DS} (i : Nat) (h : JS X E st W) : JS X E st (dFrz i W) := PS.imp h fun D σ H ⟨w, ρ, m, Ψ, N, a, n, q⟩ => by
  unfold dFrz at q
  split at q
  · rename_i k e
    split at q
    · rename_i ds em
      obtain ⟨v, e1, A, rfl, eA⟩ := a.s.2 i _ e
      obtain ⟨xs, fa, hx, rr, hf⟩ := a.h.frz eA (moL_some em)
      have l : w.le (w.put A (.lst xs)) := Wd.le_put fa
      have sl : Slots X.K (w.put A (.lst xs)) (σ.set i (some (.ref A))) (ρ.set i (some (.lst ds))) := (a.s.mono l).set i ⟨A, xs, rfl, upd_same, RepAll.mono l _ _ rr⟩
      have es : σ.set i (some (.ref A)) = σ := by
        apply List.ext_getElem?
        intro j
        by_cases hj : i = j
        · subst hj
          rw [List.getElem?_set_self (List.getElem?_eq_some_iff.mp e1).1, e1]
        · rw [List.getElem?_set_ne hj]
      rw [es] at sl
      exact ⟨_, _, _, Ψ, N, ⟨hf, sl, a.x.mono l⟩, n.mono l, q⟩
    · exact q.elim
  · exact q.elim
end Dl

namespace Dl
open PySem L2 PyProof.Rows
/-! ### errors of own classes: made and raised -/
/-- what the written part must say of a class B whose __init__ is ValueError's, called by name -/
structure InitC (K : PySem.W.Frag) (B : Addr) : Prop where
  rd : PySem.W.readsIn K B (.type "type") = true
  ga : PySem.W.specialIn K (.ref B) "__getattribute__" = some (some (.builtin "type.__getattribute__"))
  at_ : PySem.W.findCls K (.ref B) (.type "type") "__init__" = some (.val (.builtin "ValueError.__init__"))
section
variable {X : Cx} {B : Addr} {x : Str} {o e : Expr} {es : List Expr} {ta : TA} {p1 p2 pos : Pos}
theorem pe_binit {pl : Sem Bool} (hg : Gl X x) (hm : X.mg x = some (.ref B)) (T : InitC X.K B) (ha : PA X (e :: es) ta) (hdb : (x == ("__debug__" : Str)) = false := by decide)
    (hc : eval (.Call (.Attribute (.Name x p1) "__init__" p2) (e :: es) [] pos) X.env = (do
      let ov ← eval (.Name x p1) X.env
      standAt p2.atName
      let (f, first) ← holding [ov] (getMethod ov "__init__" pl)
      callWith pos f first (backTo pos (starEach (e :: es) X.env)) (backToKw pos (keywordEach [] X.env))) := by rfl)
    (he : starEach (e :: es) X.env = (false, eval e X.env) :: starEach es X.env := by rfl) (hpl : (backTo pos (starEach es X.env)).any (·.1) = false := by rfl) :
    PE X (.Call (.Attribute (.Name x p1) "__init__" p2) (e :: es) [] pos) (tVeI X.K ta) := by
  constructor
  intro pins s σ H Q I told
  apply PySem.W.methodCall_KW _ hc
  apply ld_glob I hg hm _ hdb
  apply PySem.W.method_cls I.kIn T.ga
  apply PySem.W.cls_value I.kIn T.rd T.at_ (by decide +kernel)
  refine PyProof.Rows.callWith_method1 (wpAny_mono (ha.run pos pins _ σ H _ (I.tok _) told) ?_ fun _ _ z => z) he hpl
  rintro us s1 ⟨vs, H1, I1, rs, a, C, ws, rfl, many, okC, there, go⟩
  match us, rs with
  | u :: ur, .cons ra rr =>
    cases ra
    exact oinit_ok okC I1 there (by rw [← Paired.length rr, sizeLine_eq]; omega) fun s' J => ⟨.non, H1, J, rfl, go⟩
end
/-- the promise of an __init__ that keeps its arguments in the fields fs -/
def spErr (C : Addr) (fs : List Str) : Sp := fun vs H Q _ => ∃ (a : Addr) (ws : List V), vs = .ref a :: ws ∧ ws.length = fs.length ∧ H a = some (exo a C none) ∧
  ∀ dx, H dx = none → dx ≠ a → Q .non (upd (upd H dx (exd dx (fs.zip ws).reverse)) a (exo a C (some dx)))
section
variable {P : Program} {w : World} {K : PySem.W.Frag} {mg : Str → Option Value} {base : Heap}
/-- def __init__(self, y): B.__init__(self, 'text'); self.f = y -/
theorem err_init1 {qual y f t : Str} {st st1 st2 : Stmt} {fI : Addr} {fd : FuncData} {C : Addr} (F : Fun K "__init__" qual st fI fd) (S : FnScope ["self", y] ["self", y] (defScope st)) (hb : defBody st = [st1, st2])
    (g1 : ∀ (cdv : Value) (A : Around) (outer : List PySem.Env) (s : Shared) (H : Hp) (E : XK), PS (cxOf (L2.CX P w) P w K mg base ["self", y] qual (defScope st) fI cdv A outer s H E) st1 (tDrop (tVeI K (tCons (tVar 0) (tCons (tC (.str t)) tNil)))))
    (g2 : ∀ (cdv : Value) (A : Around) (outer : List PySem.Env) (s : Shared) (H : Hp) (E : XK), PS (cxOf (L2.CX P w) P w K mg base ["self", y] qual (defScope st) fI cdv A outer s H E) st2 (tOst K f (tVar 0) (tVar 1)))
    (T2 : OexC K C) (hno : PySem.W.findIn K (.ref C) f = some none) : FnOk P w K mg base (L2.CX P w) 1 fI fd ["self", y] (spErr C [f]) := by
  refine F.okX S (fun vs H Q E ⟨a, ws, e, l, _⟩ => by rw [e, List.length_cons, l]; rfl) fun cdv A outer s H vs Q E hr ⟨a, ws, e, l, ha, q⟩ => ?_
  obtain ⟨v, rfl⟩ : ∃ v, ws = [v] := by
    match ws, l with
    | [v], _ => exact ⟨v, rfl⟩
  rw [hb]
  refine ⟨_, pss_cons (g1 cdv A outer s H E) (pss_one (g2 cdv A outer s H E)), ?_⟩
  subst e
  refine ⟨_, rfl, ⟨a, C, [.str t], rfl, by show 1 ≤ 1000; decide, T2, ha, ?_⟩⟩
  exact ⟨_, rfl, _, rfl, a, C, rfl, T2, hno, .inl ⟨ha, fun dx n ne => q dx n ne⟩⟩
/-- an own error class that can be made -/
structure ErrOk (P : Program) (w : World) (K : PySem.W.Frag) (mg : Str → Option Value) (base : Heap) (c : String) (fs : List String) : Prop where
  mgc : mg (PySem.Str.ofString c) = some (.ref (kcl K c))
  oex : OexC K (kcl K c)
  len : fs.length ≤ 100
  ini : ∃ (fI : Addr) (fd : FuncData) (ps : List Str), PySem.W.findIn K (.ref (kcl K c)) "__init__" = some (some (.ref fI)) ∧ PySem.W.typeIn K (.ref fI) = some (.type "function") ∧ BA fd ps ∧
    FnOk P w K mg base (L2.CX P w) 1 fI fd ps (spErr (kcl K c) (fs.map PySem.Str.ofString))
end
/-- raise C(e, ..): what follows is the wish of the error -/
def dRaise (c : String) (fs : List String) (r : DA) : DS := fun _ Ψ ρ m => r ρ m (fun ds m1 => ds.length = fs.length ∧ Ψ ρ c (fs.zip ds).reverse m1) (Ψ ρ)
theorem RepF.append {K : PySem.W.Frag} {w : Wd} : ∀ {ds es : List (String × D)} {vs us : List (Str × V)}, RepF K w ds vs → RepF K w es us → RepF K w (ds ++ es) (vs ++ us)
  | [], _, _, _, h, g => by
    have q : _ = [] := h
    subst q; exact g
  | (f, d) :: ds, _, _, _, h, g => by
    obtain ⟨v, r, rfl, a, b⟩ := h
    exact ⟨v, _, rfl, a, RepF.append b g⟩
theorem RepF.reverse {K : PySem.W.Frag} {w : Wd} {ds : List (String × D)} {vs : List (Str × V)} (h : RepF K w ds vs) : RepF K w ds.reverse vs.reverse := by
  induction ds generalizing vs with
  | nil =>
    have q : vs = [] := h
    subst q; exact rfl
  | cons d ds ih =>
    obtain ⟨f, d⟩ := d
    obtain ⟨v, r, rfl, a, b⟩ := h
    rw [List.reverse_cons, List.reverse_cons]
    exact RepF.append (ih b) ⟨v, [], rfl, a, rfl⟩
theorem repF_zip {K : PySem.W.Frag} {w : Wd} : ∀ {fs : List String} {ds : List D} {vs : List V}, RepAll K w ds vs → RepF K w (fs.zip ds) ((fs.map PySem.Str.ofString).zip vs)
  | [], _, _, _ => rfl
  | f :: fs, [], vs, r => by
    have e : vs = [] := r
    subst e; exact rfl
  | f :: fs, d :: ds, vs, r => by
    obtain ⟨v, r', rfl, a, b⟩ := r
    exact ⟨v, _, rfl, a, repF_zip b⟩
section
variable {X : Cx} {E : WX} {c : String} {fs : List String} {e : Expr} {es : List Expr} {Ws : DA} {p cpos pos : Pos}
theorem js_raise (hc : X.calm = true) (tk : Takes X E) (G : ErrOk X.prog X.w X.K X.mg X.base c fs) (hg : Gl X (PySem.Str.ofString c)) (hr : Room 2 X.A) (ha : JA X E (e :: es) Ws)
    (hdb : (PySem.Str.ofString c == ("__debug__" : Str)) = false := by decide) (he : starEach (e :: es) X.env = (false, eval e X.env) :: starEach es X.env := by rfl) (hpl : (backTo cpos (starEach es X.env)).any (·.1) = false := by rfl) :
    JS X E (.Raise (some (.Call (.Name (PySem.Str.ofString c) p) (e :: es) [] cpos)) none pos) (dRaise c fs Ws) := by
  obtain ⟨hm, T, hlen, fI, fd, ps, iC, tI, b, F1⟩ := G
  refine PS.imp (ps_raise hc tk (pmk_oex T iC tI F1 hr (Binds.all b) .nil passL hg hm ha hdb he hpl)) fun D σ H ⟨w, ρ, m, Ψ, N, a, n, q⟩ => ?_
  refine ⟨w, ρ, m, Ψ ρ, _, a.at, ?_, q⟩
  intro ds m1 w1 H1 vs l1 h1 r1 ⟨hl, q1⟩
  have hvl : vs.length = fs.length := r1.length.trans hl
  refine ⟨by show vs.length ≤ 1000; omega, fun b hb0 => ⟨b, vs, by rw [List.append_nil], by rw [List.length_map]; exact hvl, upd_same, fun dx hdx hne => ⟨rfl, dx, ((fs.map PySem.Str.ofString).zip vs).reverse, upd_same, ?_, ?_, ?_⟩⟩⟩
  · rw [upd_ne hne, upd_same]
  · rw [upd_ne hne] at hdx
    exact hdx
  · have hd1 : H1 dx = none := by rw [upd_ne hne] at hdx; exact hdx
    have eh : upd (del (upd (upd (upd H1 b (exo b (kcl X.K c) none)) dx (exd dx ((fs.map PySem.Str.ofString).zip vs).reverse)) b (exo b (kcl X.K c) (some dx))) b) dx (.xd ((fs.map PySem.Str.ofString).zip vs).reverse) = upd H1 dx (.xd ((fs.map PySem.Str.ofString).zip vs).reverse) := by
      funext z
      by_cases z1 : z = dx
      · rw [z1, upd_same, upd_same]
      · rw [upd_ne z1, upd_ne z1]
        by_cases z2 : z = b
        · rw [z2, del_same, hb0]
        · rw [del_ne z2, upd_ne z2, upd_ne z1, upd_ne z2]
    rw [eh]
    have lw : w1.le (w1.put dx (.xd ((fs.map PySem.Str.ofString).zip vs).reverse)) := Wd.le_put (h1.nof hd1)
    exact a.x ρ σ w (.refl w) a.s c (fs.zip ds).reverse m1 _ _ dx _ (l1.trans lw) (h1.put hd1) upd_same (RepF.reverse (repF_zip (RepAll.mono lw _ _ r1))) q1
end

/-! ### try .. except B as n -/
/-- L tells of each class whether the clause takes it -/
def dTryAs (i : Nat) (L : List (String × Bool)) (body : DS) (su : Addr → Addr → String → DS) : DS := fun N Ψ ρ m =>
  body N (fun ρ' c fs m' => match L.lookup c with
    | some true => ∀ a d, su a d c { nx := fun ρ2 m2 => N.nx (ρ2.set i none) m2, rt := N.rt, bk := fun ρ2 m2 => N.bk (ρ2.set i none) m2, ct := fun ρ2 m2 => N.ct (ρ2.set i none) m2 } (fun _ => XF) (ρ'.set i (some (.exc a d c fs))) m'
    | some false => Ψ ρ' c fs m'
    | none => False) ρ m
section
variable {X : Cx} {E : WX} {B : String} {L : List (String × Bool)} {n : Str} {body suite : List Stmt} {b₀ : Stmt} {np pos pos' : Pos} {t : DS} {su : Addr → Addr → String → DS}
end
/-! in the suite -/
/-- e.f -/
def dXf (a d : Addr) (f : String) (o : DE) : DE := fun ρ m Φ Ψ => o ρ m (fun x m1 => match x with
  | .exc a' d' _ fs => a' = a ∧ d' = d ∧ ∃ v, fs.lookup f = some v ∧ Φ v m1
  | _ => False) Ψ
section
variable {X : Cx} {a d : Addr} {oe : Obj} {c : String} {pn : List (Addr × Obj)} {o : Expr} {W : DE} {f : String} {pos : Pos}
/-- isinstance(e, B) of the caught error -/
def dIsE (a d : Addr) (L : List (String × Bool)) (B : String) (c : String) (o : DE) : DE := fun ρ m Φ Ψ => o ρ m (fun x m1 => match x with
  | .exc a' d' _ _ => a' = a ∧ d' = d ∧ ∃ b, L.lookup c = some b ∧ Φ (.bl b) m1
  | _ => False) Ψ
end

/-! ### what the top must say of the classes -/
def Hnos (K : PySem.W.Frag) (C : Addr) (fs : List String) : Prop := ∀ f ∈ fs, PySem.W.findIn K (.ref C) (PySem.Str.ofString f) = some none
structure ErrT (K : PySem.W.Frag) (mg : Str → Option Value) (c : String) (q : Str) (st : Stmt) (ps : List Str) (fs : List String) : Prop where
  mgc : mg (PySem.Str.ofString c) = some (.ref (kcl K c))
  oex : OexC K (kcl K c)
  hno : Hnos K (kcl K c) fs
  ini : ∃ (fI : Addr) (fd : FuncData), PySem.W.findIn K (.ref (kcl K c)) "__init__" = some (some (.ref fI)) ∧ PySem.W.typeIn K (.ref fI) = some (.type "function") ∧ Fun K "__init__" q st fI fd ∧ BA fd ps
theorem errT_mk {K : PySem.W.Frag} {h : Heap} {mg : Str → Option Value} {c : String} {q : Str} {st : Stmt} {ps : List Str} {fs : List String} {C fI : Addr} {od an : Option Addr} {sl : Array (Option Value)} {oc kV dc pm cd ct : Value}
    {nm qq N bs bm sn sub ab col dd k0 k1 k2 k3 k5} (X : K.In h) (G : h.Ns mainGlobals mg)
    (a : PySem.W.nsIn K mainGlobals (PySem.Str.ofString c) = some (some (.ref C)))
    (c1 : K.lookup C = some (excClassObj nm qq C N bs bm true sn sub ab col dd k0 k1 k2 k3 k5 "ValueError.__new__")) (c2 : PySem.HandSPX.refsVE bm = true)
    (c3 : PySem.W.findIn K (.ref C) "__setattr__" = some (some (.builtin "object.__setattr__"))) (c4 : PySem.W.subIn K (.ref C) (.type "BaseException") = some true)
    (c5 : PySem.W.typeIn K (.ref C) = some (.type "type")) (c6 : PySem.W.keepIn K (.ref C) = true) (hno : Hnos K C fs)
    (i1 : PySem.W.findIn K (.ref C) "__init__" = some (some (.ref fI))) (i2 : PySem.W.typeIn K (.ref fI) = some (.type "function"))
    (l : K.lookup fI = some ⟨oc, od, .func (PySem.W.fnOf "__init__" q (defArgs st) (defBody st) (defScope st) .none kV dc pm an cd ct), sl⟩) (cc : PySem.W.codeIn K cd q = true) (k : PySem.W.keepIn K (.ref fI) = true)
    (b : ∀ (kV doc pm : Value) (an : Option Addr) (cdv ct : Value) (us : List Value), us.length = ps.length → bindArgs (PySem.W.fnOf "__init__" q (defArgs st) (defBody st) (defScope st) .none kV doc pm an cdv ct) ⟨us, []⟩ = pure (ps.zip us)) : ErrT K mg c q st ps fs := by
  have e := kcl_of a
  refine ⟨?_, ?_, ?_, fI, _, ?_, i2, fun_mk l cc k, b kV dc pm an cd ct⟩
  · rw [e]; exact PySem.W.mg_of X G a
  · rw [e]; exact ⟨⟨nm, qq, N, bs, bm, sn, sub, ab, col, dd, k0, k1, k2, k3, k5, c1, c2⟩, c3, c4, c5, c6⟩
  · rw [e]; exact hno
  · rw [e]; exact i1
structure InitB (K : PySem.W.Frag) (mg : Str → Option Value) (b : String) : Prop where
  mgb : mg (PySem.Str.ofString b) = some (.ref (kcl K b))
  ini : InitC K (kcl K b)
theorem initB_mk {K : PySem.W.Frag} {h : Heap} {mg : Str → Option Value} {c : String} {C : Addr} (X : K.In h) (G : h.Ns mainGlobals mg) (a : PySem.W.nsIn K mainGlobals (PySem.Str.ofString c) = some (some (.ref C)))
    (rd : PySem.W.readsIn K C (.type "type") = true) (ga : PySem.W.specialIn K (.ref C) "__getattribute__" = some (some (.builtin "type.__getattribute__"))) (at_ : PySem.W.findCls K (.ref C) (.type "type") "__init__" = some (.val (.builtin "ValueError.__init__"))) : InitB K mg c := by
  have e := kcl_of a
  refine ⟨?_, ?_⟩
  · rw [e]; exact PySem.W.mg_of X G a
  · rw [e]; exact ⟨rd, ga, at_⟩
theorem dRaise_one {c f : String} {a : DE} {N : DN} {Ψ : XS} {ρ : Dl.Env} {m : MM} : dRaise c [f] (dCons a dNil) N Ψ ρ m = a ρ m (fun x m1 => Ψ ρ c [(f, x)] m1) (Ψ ρ) := by
  simp [dRaise, dCons, dNil]
theorem dRaise_two {c f g : String} {a b : DE} {N : DN} {Ψ : XS} {ρ : Dl.Env} {m : MM} : dRaise c [f, g] (dCons a (dCons b dNil)) N Ψ ρ m = a ρ m (fun x m1 => b ρ m1 (fun y m2 => Ψ ρ c [(g, y), (f, x)] m2) (Ψ ρ)) (Ψ ρ) := by
  simp [dRaise, dCons, dNil]
theorem okE_int {n : Nat} {i : Int} : okE n (.int i) = true := rfl
theorem okE_bl {n : Nat} {b : Bool} : okE n (.bl b) = true := rfl
theorem okE_non {n : Nat} : okE n .non = true := rfl
end Dl

namespace Dl
open PySem L2 PyProof.Rows
/-! ### max, min of a list -/
def cMaxL : DCB := fun ds m Φ => match ds with
  | [d] => match asL m d with
    | some xs => ∃ ns, intsD xs = some ns ∧ 0 < ns.length ∧ ∀ k, k ∈ ns → (∀ y, y ∈ ns → y ≤ k) → Φ (.int k) m
    | none => False
  | _ => False
def cMinL : DCB := fun ds m Φ => match ds with
  | [d] => match asL m d with
    | some xs => ∃ ns, intsD xs = some ns ∧ 0 < ns.length ∧ ∀ k, k ∈ ns → (∀ y, y ∈ ns → k ≤ y) → Φ (.int k) m
    | none => False
  | _ => False
/-! ### shifts -/
def oShr : DO := oI (fun _ j => 0 ≤ j) fun i j => i / 2 ^ j.toNat
/-! ### xs.extend(ys) -/
def oExt : D → List D → MM → (D → MM → Prop) → Prop := fun x ds m Φ => match x, ds with
  | .hnd k, [y] => match moL m.M[k]?, asK m y with
    | some xs, some ys => xs.length + ys.length ≤ LIM ∧ Φ .non ⟨m.M.set k (.lst (xs ++ ys)), m.s⟩
    | _, _ => False
  | _, _ => False
/-! ### in, not in -/
def memD (x : D) (ys : List D) : Bool := ys.any fun y => eqD y x
def oInL (neg : Bool) : DO := fun x y m Φ => match y with
  | .lst ys => okE 64 x = true ∧ okE 64 (.lst ys) = true ∧ Φ (.bl (if neg then !memD x ys else memD x ys)) m
  | .rol ys => okE 64 x = true ∧ okE 64 (.rol ys) = true ∧ Φ (.bl (if neg then !memD x ys else memD x ys)) m
  | _ => False
/-! ### is True, is False -/
def oIsB : DO := fun x y m Φ => match x, y with
  | .bl a, .bl b => Φ (.bl (decide (a = b))) m
  | _, _ => False
def oNotB : DO := fun x y m Φ => match x, y with
  | .bl a, .bl b => Φ (.bl (!decide (a = b))) m
  | _, _ => False
/-! ### any -/
def blsD : List D → Option (List Bool)
  | [] => some []
  | .bl b :: r => (blsD r).map (b :: ·)
  | _ => none
def cAny : DCB := fun ds m Φ => match ds with
  | [d] => match asL m d with
    | some xs => ∃ bs, blsD xs = some bs ∧ Φ (.bl (bs.any id)) m
    | none => False
  | _ => False
/-! ### xs[::-1] -/
def dRevL (a : DE) : DE := fun ρ m Φ Ψ => a ρ m (fun d m1 => match asL m1 d with
  | some ds => Φ (.lst ds.reverse) m1
  | none => False) Ψ
section
variable {X : Cx} {E : WX} {a : Expr} {Wa : DE} {pos : Pos}
end
/-! ### a comprehension over two walks -/
section
variable {X : Cx} {E : WX}
end
end Dl

namespace Dl
open PySem L2 PyProof.Rows
/-! ### objects of own classes -/
def moI : Option MO → Option (String × List (String × D))
  | some (.ins c fs) => some (c, fs)
  | _ => none
theorem moI_ins {c : String} {fs : List (String × D)} : moI (some (.ins c fs)) = some (c, fs) := rfl
/-- o.f -/
def dFld (cs : List String) (f : String) (o : DE) : DE := fun ρ m Φ Ψ => o ρ m (fun x m1 => match x with
  | .hnd k => match moI m1.M[k]? with
    | some (c, fs) => cs.contains c = true ∧ ∃ v, fs.lookup f = some v ∧ Φ v m1
    | none => False
  | _ => False) Ψ
section
variable {X : Cx} {E : WX} {o e : Expr} {Wo We : DE} {f : String} {cs : List String} {pos p' tpos : Pos}
/-- o.f = e -/
def dSetF (cs : List String) (f : String) (e o : DE) : DS := fun N Ψ ρ m => e ρ m (fun v m1 => o ρ m1 (fun x m2 => match x with
  | .hnd k => match moI m2.M[k]? with
    | some (c, fs) => cs.contains c = true ∧ fs.length < 1000 ∧ N.nx ρ ⟨m2.M.set k (.ins c (putD f v fs)), m2.s⟩
    | none => False
  | _ => False) (Ψ ρ)) (Ψ ρ)
/-- o.f += e, of ints -/
def dAugF (cs : List String) (f : String) (g : Int → Int → Int) (e o : DE) : DS := fun N Ψ ρ m => o ρ m (fun x m1 => match x with
  | .hnd k => match moI m1.M[k]? with
    | some (c, fs) => cs.contains c = true ∧ ∃ i, fs.lookup f = some (.int i) ∧ e ρ m1 (fun y m2 => match y, moI m2.M[k]? with
      | .int j, some (c', fs') => c' = c ∧ fs'.length < 1000 ∧ N.nx ρ ⟨m2.M.set k (.ins c (putD f (.int (g i j)) fs')), m2.s⟩
      | _, _ => False) (Ψ ρ)
    | none => False
  | _ => False) (Ψ ρ)
end
/-! ### methods -/
/-- a method of the class c keeps its worth -/
def OkM (P : Program) (w : World) (K : PySem.W.Frag) (base : Heap) (mg : Str → Option Value) (c : String) (mn : String) (lv : Nat) (ps : List Str) (C : DC) : Prop :=
  ∃ f fd, Cls K (kcl K c) ∧ Meth K (kcl K c) (PySem.Str.ofString mn) f ∧ BA fd ps ∧ FnOk P w K mg base (L2.CX P w) lv f fd ps (spOf K ps.length C)
section
variable {P : Program} {w : World} {K : PySem.W.Frag} {base : Heap} {mg : Str → Option Value} {mn : String} {lv n : Nat}
theorem OkM.mono {c : String} {lv' : Nat} {ps : List Str} {C : DC} (h : OkM P w K base mg c mn lv ps C) (l : lv ≤ lv') : OkM P w K base mg c mn lv' ps C := by
  obtain ⟨f, fd, a, b, c, d⟩ := h
  exact ⟨f, fd, a, b, c, d.mono l⟩
end
section
variable {X : Cx} {E : WX} {o e : Expr} {es : List Expr} {ta : TE} {t : TA} {mn : Str} {apos pos : Pos}
end
/-- o.m(..): tab tells each class's worth -/
def dMeth (tab : List (String × DC)) (mn : String) (n : Nat) (o : DE) (r : DA) : DE := fun ρ m Φ Ψ => o ρ m (fun x m1 => match x with
  | .hnd k => match moI m1.M[k]? with
    | some (c, fs) => match tab.lookup c with
      | some C => fs.lookup mn = none ∧ r ρ m1 (fun ds m2 => ds.length = n ∧ C (.hnd k :: ds) m2 Φ Ψ) Ψ
      | none => False
    | none => False
  | _ => False) Ψ
section
variable {X : Cx} {E : WX} {o e : Expr} {es : List Expr} {Wo : DE} {Ws : DA} {mn : String} {apos pos : Pos} {tab : List (String × DC)} {lv n : Nat}
end
/-! ### C(..) -/
def dMake (n : Nat) (c : String) (C : DC) (r : DA) : DE := fun ρ m Φ Ψ => r ρ m (fun ds m1 => ds.length = n ∧ C (.hnd m1.M.length :: ds) (m1.push (.ins c [])) (fun d m2 => d = .non ∧ Φ (.hnd m1.M.length) m2) Ψ) Ψ
section
variable {X : Cx} {E : WX} {e : Expr} {es : List Expr} {Ws : DA} {c : String} {p pos : Pos} {lv : Nat} {ps : List Str} {C : DC}
end
/-! ### a def's own objects let go, others changed -/
def kept (m0 : MM) (M1 : List MO) : Prop := M1.length = m0.M.length ∧ ∀ (i : Nat) o, M1[i]? = some o → m0.M[i]? = some o ∨ clO m0.M.length o = true
theorem kept.rfl {m : MM} : kept m m.M := ⟨_root_.rfl, fun _ _ h => .inl h⟩
theorem kept.set {m : MM} {M1 : List MO} {k : Nat} {o : MO} (h : kept m M1) (c : clO m.M.length o = true) : kept m (M1.set k o) := by
  refine ⟨by rw [List.length_set]; exact h.1, fun i o' e => ?_⟩
  by_cases hi : k = i
  · subst hi
    by_cases hl : k < M1.length
    · rw [List.getElem?_set_self hl] at e
      cases e; exact .inr c
    · rw [List.getElem?_eq_none (by rw [List.length_set]; omega)] at e; cases e
  · rw [List.getElem?_set_ne hi] at e
    exact h.2 i o' e
def retQ (m0 : MM) (Φ : D → MM → Prop) : D → MM → Prop := fun d m' => ∃ M1 L d', m'.M = M1 ++ L ∧ kept m0 M1 ∧ (d' = d ∨ ∃ j ds, d = .hnd (m0.M.length + j) ∧ L[j]? = some (.lst ds) ∧ d' = .lst ds) ∧ clD m0.M.length d' = true ∧ Φ d' ⟨M1, m'.s⟩
def retX (m0 : MM) (Ψ : XP) : XP := fun c fs m' => ∃ M1 L, m'.M = M1 ++ L ∧ kept m0 M1 ∧ clF m0.M.length fs = true ∧ Ψ c fs ⟨M1, m'.s⟩
section
variable {P : Program} {w : World} {K : PySem.W.Frag} {mg : Str → Option Value} {base : Heap}
theorem cut_kept {w0 : Wd} {m : MM} {H0 H' : Hp} {w2 : Wd} {m2 : MM} {M1 L : List MO} (h0 : HRep K w0 m H0) (h2 : HRep K w2 m2 H') (e : m2.M = M1 ++ L) (k : kept m M1) : HRep K (w2.cut m.M.length) ⟨M1, m2.s⟩ H' := by
  have et : m2.M.take m.M.length = M1 := by rw [e, ← k.1, List.take_left' rfl]
  have z := h2.cut (n := m.M.length) fun o ho => by
    rw [et] at ho
    obtain ⟨i, hi, rfl⟩ := List.mem_iff_getElem.mp ho
    rcases k.2 i _ (List.getElem?_eq_getElem hi) with q | q
    · exact h0.cls _ (List.mem_of_getElem? q)
    · exact q
  have em : m2.cut m.M.length = ⟨M1, m2.s⟩ := by
    show (⟨m2.M.take m.M.length, m2.s⟩ : MM) = _
    rw [et]
  rw [em] at z
  exact z
theorem okDQ {x qual : Str} {st : Stmt} {f : Addr} {fd : FuncData} {N ps : List Str} {k : Nat} {C : DC} {W : DS} (F : Fun K x qual st f fd) (S : FnScope N ps (defScope st))
    (hb : ∀ (cdv : Value) (A : Around) (outer : List PySem.Env) (s : Shared) (H : Hp) (E : XK), Room k (A.deeper (envOfC qual (defScope st) s.heap.objs.size f cdv)) → JSs (cxOf (L2.CX P w) P w K mg base N qual (defScope st) f cdv A outer s H E) (wishE E) (defBody st) W)
    (hC : ∀ ds m Φ Ψ, ds.length = ps.length → C ds m Φ Ψ → W { nx := fun _ m' => retQ m Φ .non m', rt := retQ m Φ } (fun _ => retX m Ψ) (ds.map some ++ List.replicate (N.length - ds.length) none) m) :
    FnOk P w K mg base (L2.CX P w) (k + 1) f fd ps (spOf K ps.length C) := by
  refine F.okX S (fun vs H Q E h => h.1) fun cdv A outer s H vs Q E hr h => ⟨_, hb cdv A outer s H E hr, ?_⟩
  obtain ⟨hl, w0, ds, m, Φ, Ψ, h0, r, vl, xl, c⟩ := h
  have hd : ds.length = ps.length := r.length.symm.trans hl
  have hlen : w0.th.length = m.M.length := h0.len
  refine ⟨w0, _, m, fun _ => retX m Ψ, _, ⟨h0, slots_start r, fun ρ σ w1 l1 _ C fs m' w' H' d xs l a b c q => ?_⟩, ?_, hC ds m Φ Ψ hd c⟩
  · obtain ⟨M1, L, e, kp, hcl, q⟩ := q
    exact xl C fs ⟨M1, m'.s⟩ (w'.cut m.M.length) H' d xs (Wd.le_cut (l1.trans l) (Nat.le_of_eq hlen)) (cut_kept h0 a e kp) b (RepF.cut _ _ c hcl) q
  have fin : VLift K w0 Q (retQ m Φ) := fun d m' w' H' v l h' rd ⟨M1, L, d', e, kp, hd', hcl, q⟩ => by
    rcases hd' with rfl | ⟨j, es', rfl, ej, rfl⟩
    · exact vl _ _ _ H' v (Wd.le_cut l (Nat.le_of_eq hlen)) (cut_kept h0 h' e kp) (Rep.cut _ _ rd hcl) q
    · obtain ⟨a, rfl, q2⟩ := rd
      have em : m'.M[m.M.length + j]? = some (.lst es') := by
        rw [e, ← kp.1, List.getElem?_append_right (Nat.le_add_right _ _), Nat.add_sub_cancel_left]; exact ej
      obtain ⟨xs, fa, hx, rr, hf⟩ := h'.frz q2 em
      refine vl (.lst es') ⟨M1, m'.s⟩ ((w'.put a (.lst xs)).cut m.M.length) H' _ (Wd.le_cut (l.trans (Wd.le_put fa)) (Nat.le_of_eq hlen)) (cut_kept (m2 := ⟨m'.M.set (m.M.length + j) .dead, m'.s⟩) (L := L.set j .dead) h0 hf ?_ kp) ?_ q
      · show m'.M.set (m.M.length + j) .dead = _
        rw [e, ← kp.1, List.set_append_right _ _ (Nat.le_add_right _ _), Nat.add_sub_cancel_left]
      · exact ⟨a, xs, rfl, upd_same, RepAll.cut _ _ (RepAll.mono (Wd.le_put fa) _ _ rr) hcl⟩
  exact ⟨fun ρ m' w' H' σ l h' _ q => fin .non m' w' H' _ l h' rfl q, fin, fun _ _ _ _ _ _ _ _ q => q.elim, fun _ _ _ _ _ _ _ _ q => q.elim⟩
end
/-! ### what the top must say of the classes -/
end Dl

namespace Dl
open PySem L2 PyProof.Rows
section
variable {X : Cx} {E : WX}
end
/-! ### == where a side may be a list that changes -/
def deref (m : MM) : D → D
  | .hnd k => match moL m.M[k]? with
    | some ds => .lst ds
    | none => .hnd k
  | d => d
def oEqH : DO := fun x y m Φ => okE 64 (deref m x) = true ∧ okE 64 (deref m y) = true ∧ Φ (.bl (eqD (deref m x) (deref m y))) m
def oNeH : DO := fun x y m Φ => okE 64 (deref m x) = true ∧ okE 64 (deref m y) = true ∧ Φ (.bl (!eqD (deref m x) (deref m y))) m
/-- list(x), a list that changes later -/
def cListM : DCB := fun ds m Φ => match ds with
  | [d] => match asL m d with
    | some xs => Φ (.hnd m.M.length) (m.push (.lst xs))
    | none => match asT d with
      | some xs => Φ (.hnd m.M.length) (m.push (.lst xs))
      | none => False
  | _ => False
def cAll : DCB := fun ds m Φ => match ds with
  | [d] => match asL m d with
    | some xs => ∃ bs, blsD xs = some bs ∧ Φ (.bl (bs.all id)) m
    | none => False
  | _ => False
def cTuple : DCB := fun ds m Φ => match ds with
  | [d] => match asL m d with
    | some xs => Φ (.tup xs) m
    | none => match asT d with
      | some _ => Φ d m
      | none => False
  | _ => False
-- kit_all
theorem kq_NoneType_int : kitB "NoneType" "int" = some false := by decide +kernel
theorem kq_NoneType_bool : kitB "NoneType" "bool" = some false := by decide +kernel
theorem kq_NoneType_list : kitB "NoneType" "list" = some false := by decide +kernel
theorem kq_NoneType_tuple : kitB "NoneType" "tuple" = some false := by decide +kernel
theorem kq_NoneType_str : kitB "NoneType" "str" = some false := by decide +kernel
theorem kq_bool_int : kitB "bool" "int" = some true := by decide +kernel
theorem kq_bool_bool : kitB "bool" "bool" = some true := by decide +kernel
theorem kq_bool_list : kitB "bool" "list" = some false := by decide +kernel
theorem kq_bool_tuple : kitB "bool" "tuple" = some false := by decide +kernel
theorem kq_bool_str : kitB "bool" "str" = some false := by decide +kernel
theorem kq_int_int : kitB "int" "int" = some true := by decide +kernel
theorem kq_int_bool : kitB "int" "bool" = some false := by decide +kernel
theorem kq_int_list : kitB "int" "list" = some false := by decide +kernel
theorem kq_int_tuple : kitB "int" "tuple" = some false := by decide +kernel
theorem kq_int_str : kitB "int" "str" = some false := by decide +kernel
theorem kq_str_int : kitB "str" "int" = some false := by decide +kernel
theorem kq_str_bool : kitB "str" "bool" = some false := by decide +kernel
theorem kq_str_list : kitB "str" "list" = some false := by decide +kernel
theorem kq_str_tuple : kitB "str" "tuple" = some false := by decide +kernel
theorem kq_str_str : kitB "str" "str" = some true := by decide +kernel
theorem kq_list_int : kitB "list" "int" = some false := by decide +kernel
theorem kq_list_bool : kitB "list" "bool" = some false := by decide +kernel
theorem kq_list_list : kitB "list" "list" = some true := by decide +kernel
theorem kq_list_tuple : kitB "list" "tuple" = some false := by decide +kernel
theorem kq_list_str : kitB "list" "str" = some false := by decide +kernel
theorem kq_tuple_int : kitB "tuple" "int" = some false := by decide +kernel
theorem kq_tuple_bool : kitB "tuple" "bool" = some false := by decide +kernel
theorem kq_tuple_list : kitB "tuple" "list" = some false := by decide +kernel
theorem kq_tuple_tuple : kitB "tuple" "tuple" = some true := by decide +kernel
theorem kq_tuple_str : kitB "tuple" "str" = some false := by decide +kernel
/-! ### plain data -/
mutual
def plD : D → Bool
  | .non => true
  | .bl _ => true
  | .int _ => true
  | .str x => PyData.strOk x
  | .lst ds => plDs ds
  | .tup ds => plDs ds
  | _ => false
def plDs : List D → Bool
  | [] => true
  | d :: ds => plD d && plDs ds
end
mutual
theorem okE_mono : ∀ (d : D) {n k : Nat}, okE n d = true → n ≤ k → okE k d = true
  | .non, _, _, _, _ => rfl
  | .bl _, _, _, _, _ => rfl
  | .int _, _, _, _, _ => rfl
  | .str _, _, _, h, _ => h
  | .lst ds, n, k, h, l => by
    have h : (decide (0 < n) && okEs (n - 1) ds) = true := h
    rw [Bool.and_eq_true] at h
    have h0 := of_decide_eq_true h.1
    show (decide (0 < k) && okEs (k - 1) ds) = true
    rw [decide_eq_true (by omega), okEs_mono ds h.2 (by omega)]; rfl
  | .rol ds, n, k, h, l => by
    have h : (decide (0 < n) && okEs (n - 1) ds) = true := h
    rw [Bool.and_eq_true] at h
    have h0 := of_decide_eq_true h.1
    show (decide (0 < k) && okEs (k - 1) ds) = true
    rw [decide_eq_true (by omega), okEs_mono ds h.2 (by omega)]; rfl
  | .tup ds, n, k, h, l => by
    have h : (decide (0 < n) && okEs (n - 1) ds) = true := h
    rw [Bool.and_eq_true] at h
    have h0 := of_decide_eq_true h.1
    show (decide (0 < k) && okEs (k - 1) ds) = true
    rw [decide_eq_true (by omega), okEs_mono ds h.2 (by omega)]; rfl
  | .rot ds, n, k, h, l => by
    have h : (decide (0 < n) && okEs (n - 1) ds) = true := h
    rw [Bool.and_eq_true] at h
    have h0 := of_decide_eq_true h.1
    show (decide (0 < k) && okEs (k - 1) ds) = true
    rw [decide_eq_true (by omega), okEs_mono ds h.2 (by omega)]; rfl
  | .ty _, _, _, h, _ => nomatch h
  | .cls _, _, _, h, _ => nomatch h
  | .hnd _, _, _, h, _ => nomatch h
  | .st _, _, _, h, _ => nomatch h
  | .exc _ _ _ _, _, _, h, _ => nomatch h
theorem okEs_mono : ∀ (ds : List D) {n k : Nat}, okEs n ds = true → n ≤ k → okEs k ds = true
  | [], _, _, _, _ => rfl
  | d :: ds, n, k, h, l => by
    have h : (okE n d && okEs n ds) = true := h
    rw [Bool.and_eq_true] at h
    show (okE k d && okEs k ds) = true
    rw [okE_mono d h.1 l, okEs_mono ds h.2 l]; rfl
end
mutual
theorem clD_pl {n : Nat} : ∀ (d : D), plD d = true → clD n d = true
  | .non, _ => rfl
  | .bl _, _ => rfl
  | .int _, _ => rfl
  | .str _, _ => rfl
  | .lst ds, h => clAll_pl ds h
  | .tup ds, h => clAll_pl ds h
theorem clAll_pl {n : Nat} : ∀ (ds : List D), plDs ds = true → clAll n ds = true
  | [], _ => rfl
  | d :: ds, h => by
    have h : (plD d && plDs ds) = true := h
    rw [Bool.and_eq_true] at h
    show (clD n d && clAll n ds) = true
    rw [clD_pl d h.1, clAll_pl ds h.2]; rfl
end
theorem app_len {M : List MO} {o : MO} : (M ++ [o])[M.length]? = some o := by rw [List.getElem?_append_right (Nat.le_refl _)]; simp
theorem set_app {M : List MO} {o z : MO} : (M ++ [o]).set M.length z = M ++ [z] := by rw [List.set_append_right _ _ (Nat.le_refl _)]; simp
theorem retQ_dead {m : MM} {Φ : D → MM → Prop} {d : D} {L : List MO} (hc : clD m.M.length d = true) (q : Φ d m) : retQ m Φ d ⟨m.M ++ L, m.s⟩ := ⟨m.M, L, d, rfl, kept.rfl, .inl rfl, hc, q⟩
theorem retQ_lst {m : MM} {Φ : D → MM → Prop} {xs : List D} (hc : clAll m.M.length xs = true) (q : Φ (.lst xs) m) : retQ m Φ (.hnd m.M.length) ⟨m.M ++ [.lst xs], m.s⟩ := ⟨m.M, [.lst xs], .lst xs, rfl, kept.rfl, .inr ⟨0, xs, rfl, rfl, rfl⟩, hc, q⟩
/-! ### repr of None too -/
def cRepr2 : DCB := fun ds m Φ => match ds with
  | [.non] => Φ (.str (PySem.Str.ofString "None")) m
  | ds => cRepr ds m Φ
def rRepr2 (K : PySem.W.Frag) : List V → Hp → VK → Prop := fun xs H Q => (xs = [.non] ∧ Q (.str (PySem.Str.ofString "None")) H) ∨ rRepr K xs H Q
theorem cbl_repr2 {K : PySem.W.Frag} : CbL K (rRepr2 K) cRepr2 := fun w m H ds vs Q Φ h r vl q => by
  unfold cRepr2 at q
  split at q
  · obtain ⟨v, rfl, rv⟩ := rep1 r
    cases (show v = V.non from rv)
    exact .inl ⟨rfl, vl.str h q⟩
  · exact .inr (cbl_repr w m H ds vs Q Φ h r vl q)
theorem callR_repr2 {X : Cx} (hg : X.A.guards = some []) (hu : X.A.units + 100 < cLine) : CallR X (.builtin "repr") (rRepr2 X.K) := by
  rintro pins s σ H xs us Q I rs (⟨rfl, q⟩ | q)
  · cases rs with
    | cons r rs =>
      cases rs
      cases r
      refine PySem.call_repr_slot (v := .none) (T := "NoneType") (idr := "NoneType.__repr__") (by omega) rfl PySem.F.slot_NoneType_repr.toG ?_
      refine PySem.call_gives PySem.F.slot_NoneType_repr rfl PySem.F.entry_NoneType_repr (PySem.F.args_NoneType_repr_1 _) PySem.gives_none_repr ⟨by rw [sizeLine_eq]; decide +kernel, ?_⟩
      exact ⟨_, _, rfl, .str (PySem.Str.ofString "None"), H, I.tok _, ⟨_, rfl⟩, q⟩
  · exact callR_repr hg hu pins s σ H xs us Q I rs q
section
variable {X : Cx} {E : WX} {a : Expr} {Wa : DE} {pos : Pos}
/-- a slice of a tuple, not the whole of it -/
def dSlT (a : DE) (lo hi : DPt) : DE := fun ρ m Φ Ψ => a ρ m (fun d m1 => lo ρ m1 (fun l m2 => hi ρ m2 (fun u m3 => match d with
  | .tup ds => ¬ (HT.sIx ds.length 0 l = 0 ∧ HT.sIx ds.length ds.length u = ds.length) ∧ Φ (.tup (cutD ds l u)) m3
  | _ => False) Ψ) Ψ) Ψ
end
end Dl

namespace Dl
open PySem L2
/-! ### a def that stands under another name; targets that are fields -/
section
variable {X : Cx} {E : WX} {o : Expr} {Wo : DE} {pos : Pos} {js : List Nat}
theorem PGs.imp {ts : List Expr} {t t' : TGs} (h : PGs X ts t) (i : ∀ vs σ H Q, t' vs σ H Q → t vs σ H Q) : PGs X ts t' := ⟨fun pins s σ H vs us Q I r q => h.run pins s σ H vs us Q I r (i vs σ H Q q)⟩
end
end Dl

namespace Dl
open PySem L2
/-! ### a comprehension whose items change the store; [x] * n as a changing list -/
section
variable {X : Cx} {E : WX}
end
def oRepM : DO := fun x y m Φ => match x, y with
  | .lst ds, .int k => ds.length * k.toNat ≤ LIM ∧ -(2 ^ 63) ≤ k ∧ k < 2 ^ 63 ∧ Φ (.hnd m.M.length) (m.push (.lst (List.replicate k.toNat ds).flatten))
  | _, _ => False
theorem opl_repM {K : PySem.W.Frag} : OpL K rRep oRepM := fun w m H x y u v Q Φ h r1 r2 vl q => by
  unfold oRepM at q
  split at q
  · obtain ⟨a, xs, rfl, ha, ra⟩ := r1
    cases (show v = V.int _ from r2)
    obtain ⟨z, k1, k2, q⟩ := q
    refine ⟨a, _, xs, rfl, rfl, h.ext _ _ ha, k1, k2, lim_sz (by rw [ra.length]; exact z), fun p hp => ?_⟩
    exact vl.newM h hp (repAll_many ra _) q
  · exact q.elim
end Dl

namespace Dl
open PySem L2
/-! ### a changing list by a comprehension whose items change the store -/
section
variable {X : Cx} {E : WX}
end
end Dl

namespace Dl
open PySem L2
/-! ### a walk over a tuple -/
section
variable {X : Cx} {E : WX}
end
end Dl


namespace Dl
open PySem L2
/-! ### a head by facts: what the top has bound, from one run -/
abbrev AlM : Type := He.Al × Bool
def obsM (fa : List He.Fa) (fn : List He.FnD) (ck : List (PySem.W.Frag → Bool)) (K : PySem.W.Frag) : AlM := (He.obsE fa fn K, ck.all fun f => f K)
def SaysM (fa : List He.Fa) (fn : List He.FnD) (ck : List (PySem.W.Frag → Bool)) (K : PySem.W.Frag) : Prop := obsM fa fn ck K = (He.valE fn, true)
def obsMG (n : Nat) (fa : List He.Fa) (fn : List He.FnD) (ck : List (PySem.W.Frag → Bool)) (g : Addr → Option Obj) : AlM := obsM fa fn ck (He.frG g (List.range n))
def hookM (n : Nat) (fa : List He.Fa) (fn : List He.FnD) (ck : List (PySem.W.Frag → Bool)) : PySem.W.Hook where
  α := AlM
  obs := fun s => obsMG n fa fn ck s.heap.get?
  val := fun _ => (He.valE fn, true)
  says := fun _ h => ∃ K : PySem.W.Frag, K.In h ∧ SaysM fa fn ck K
  of := fun _ _ e => ⟨_, He.frG_in, e⟩
  keeps := fun _ _ _ ⟨K, hK, c⟩ k => ⟨K, PySem.W.Frag.In.keeps hK k, c⟩
theorem obsMG_eq {n : Nat} {fa : List He.Fa} {fn : List He.FnD} {ck : List (PySem.W.Frag → Bool)} {g : Addr → Option Obj} {s : Shared} (h : ∀ a, g a = s.heap.get? a) : obsMG n fa fn ck g = (hookM n fa fn ck).obs s := by
  have e : g = s.heap.get? := funext h
  rw [e] <;> rfl
section
variable {fa : List He.Fa} {fn : List He.FnD} {ck : List (PySem.W.Frag → Bool)} {K : PySem.W.Frag} {h : Heap} {mg : Str → Option Value}
theorem SaysM.e (c : SaysM fa fn ck K) : He.SaysE fa fn K := congrArg (fun z : AlM => z.1) c
theorem SaysM.fact (c : SaysM fa fn ck K) (i : Nat) {f : He.Fa} (hf : fa[i]? = some f) : f.ok K = true := c.e.fact i hf
theorem SaysM.chk (c : SaysM fa fn ck K) (i : Nat) {f : PySem.W.Frag → Bool} (hf : ck[i]? = some f) : f K = true :=
  List.all_eq_true.mp (show (ck.all fun f => f K) = true from congrArg (fun z : AlM => z.2) c) f (List.mem_of_getElem? hf)
theorem defT_he (X : K.In h) (G : h.Ns mainGlobals mg) (c : SaysM fa fn ck K) {x : Str} {st : Stmt} {ps : List Str} (i j k : Nat) (hd : fn[i]? = some ⟨(x, none), x, x, defArgs st, defBody st, defScope st⟩) (hg : fa[j]? = some (.glo x)) (hk : fa[k]? = some (.keep x))
    (b : ∀ (kV doc pm : Value) (an : Option Addr) (cdv ct : Value) (us : List Value), us.length = ps.length → bindArgs (PySem.W.fnOf x x (defArgs st) (defBody st) (defScope st) .none kV doc pm an cdv ct) ⟨us, []⟩ = pure (ps.zip us)) : DefT K mg x st ps := by
  obtain ⟨oc, od, osl, kV, doc, pm, an, cdv, ct, l, cc⟩ := c.e.def_ i hd
  exact ⟨He.ga K x, _, fun_mk l cc (He.keep_ok (c.fact k hk)), He.glo_ok X G (c.fact j hg), b kV doc pm an cdv ct⟩
end
/-! ### own exceptions -/
def oexB (K : PySem.W.Frag) (C : Addr) : Bool := match K.lookup C with
  | some ⟨.type "type", _, .cls cd, sl⟩ => (match cd.mro, sl.toList with
    | .ref C' :: bm, [_, _, _, _, some (.builtin n), _] => C' == C && (n == "ValueError.__new__" && (!cd.hasDel && (cd.hasDict && PySem.HandSPX.refsVE bm)))
    | _, _ => false)
  | _ => false
theorem oexB_ok {K : PySem.W.Frag} {C : Addr} (q : oexB K C = true) : ∃ nm q N bs bm sn sub ab col dd k0 k1 k2 k3 k5, K.lookup C = some (excClassObj nm q C N bs bm true sn sub ab col dd k0 k1 k2 k3 k5 "ValueError.__new__") ∧ PySem.HandSPX.refsVE bm = true := by
  unfold oexB at q
  split at q
  · rename_i dd cd sl ho
    split at q
    · rename_i C' bm k0 k1 k2 k3 n k5 hm hs
      simp only [Bool.and_eq_true, beq_iff_eq, Bool.not_eq_true'] at q
      obtain ⟨rfl, rfl, hdel, hdi, hr⟩ := q
      obtain ⟨nm, bs, mro, ns, qn, hd, sn, sub, ab, col, del⟩ := cd
      dsimp only at hm hdel hdi
      subst hm hdel hdi
      have hsl : sl = #[k0, k1, k2, k3, some (.builtin "ValueError.__new__"), k5] := by
        obtain ⟨l⟩ := sl
        simp only at hs
        rw [hs]
      subst hsl
      exact ⟨nm, qn, ns, bs, bm, sn, sub, ab, col, dd, k0, k1, k2, k3, k5, ho, hr⟩
    · cases q
  · cases q
def errB (c : String) (fs : List String) (K : PySem.W.Frag) : Bool :=
  let C := He.ga K (PySem.Str.ofString c)
  let fI := He.ma K C "__init__"
  He.eqO (PySem.W.nsIn K mainGlobals (PySem.Str.ofString c)) (some (some (.ref C))) && (oexB K C && (He.eqO (PySem.W.findIn K (.ref C) "__setattr__") (some (some (.builtin "object.__setattr__"))) && (decide (PySem.W.subIn K (.ref C) (.type "BaseException") = some true) && (decide (PySem.W.typeIn K (.ref C) = some (.type "type")) && (PySem.W.keepIn K (.ref C) && (fs.all (fun f => He.eqO (PySem.W.findIn K (.ref C) (PySem.Str.ofString f)) (some none)) &&
    (He.eqO (PySem.W.findIn K (.ref C) "__init__") (some (some (.ref fI))) && (decide (PySem.W.typeIn K (.ref fI) = some (.type "function")) && PySem.W.keepIn K (.ref fI)))))))))
def initBB (c : String) (K : PySem.W.Frag) : Bool :=
  let C := He.ga K (PySem.Str.ofString c)
  He.eqO (PySem.W.nsIn K mainGlobals (PySem.Str.ofString c)) (some (some (.ref C))) && (PySem.W.readsIn K C (.type "type") && (He.eqO (PySem.W.specialIn K (.ref C) "__getattribute__") (some (some (.builtin "type.__getattribute__"))) && (match PySem.W.findCls K (.ref C) (.type "type") "__init__" with | some (.val (.builtin n)) => n == "ValueError.__init__" | _ => false)))
section
variable {fa : List He.Fa} {fn : List He.FnD} {ck : List (PySem.W.Frag → Bool)} {K : PySem.W.Frag} {h : Heap} {mg : Str → Option Value}
theorem errT_he (X : K.In h) (G : h.Ns mainGlobals mg) (c : SaysM fa fn ck K) {cl : String} {q : Str} {st : Stmt} {ps : List Str} {fs : List String} (i j : Nat) (hd : fn[i]? = some ⟨(PySem.Str.ofString cl, some "__init__"), "__init__", q, defArgs st, defBody st, defScope st⟩) (hc : ck[j]? = some (errB cl fs))
    (b : ∀ (kV doc pm : Value) (an : Option Addr) (cdv ct : Value) (us : List Value), us.length = ps.length → bindArgs (PySem.W.fnOf "__init__" q (defArgs st) (defBody st) (defScope st) .none kV doc pm an cdv ct) ⟨us, []⟩ = pure (ps.zip us)) : ErrT K mg cl q st ps fs := by
  obtain ⟨oc, od, osl, kV, doc, pm, an, cdv, ct, l, cc⟩ := c.e.def_ i hd
  have e := c.chk j hc
  unfold errB at e
  simp only [Bool.and_eq_true] at e
  obtain ⟨e1, e2, e3, e4, e5, e6, e7, e8, e9, e10⟩ := e
  obtain ⟨nm, qq, N, bs, bm, sn, sub, ab, col, dd, k0, k1, k2, k3, k5, c1, c2⟩ := oexB_ok e2
  exact errT_mk X G (He.eqO_ok e1) c1 c2 (He.eqO_ok e3) (of_decide_eq_true e4) (of_decide_eq_true e5) e6 (fun f hf => He.eqO_ok (List.all_eq_true.mp e7 f hf)) (He.eqO_ok e8) (of_decide_eq_true e9) l cc e10 b
theorem initB_he (X : K.In h) (G : h.Ns mainGlobals mg) (c : SaysM fa fn ck K) {cl : String} (j : Nat) (hc : ck[j]? = some (initBB cl)) : InitB K mg cl := by
  have e := c.chk j hc
  unfold initBB at e
  simp only [Bool.and_eq_true] at e
  obtain ⟨e1, e2, e3, e4⟩ := e
  refine initB_mk X G (He.eqO_ok e1) e2 (He.eqO_ok e3) ?_
  split at e4
  · rename_i n hn
    rw [hn, beq_iff_eq.mp e4]
  · cases e4
end
/-! ### errors that are caught -/
section
variable {fa : List He.Fa} {fn : List He.FnD} {ck : List (PySem.W.Frag → Bool)} {K : PySem.W.Frag} {h : Heap} {mg : Str → Option Value}
end
/-! a text at the top -/
theorem walk_DGE {l : PySem.W.OpenLaw} {q : Program} {loose : List Str} {XP : (Str → Option Value) → Heap → Prop} {YP : World → Heap → Prop} {d : DefRec} {x : Str}
    (hn : l.most = some 63) (hdf : d.params.defaults = [])
    (F : ∀ (w : World) (mg : Str → Option Value) (fa : Addr) (h : Heap), YP w h → h.Ns mainGlobals mg → mg d.name = some (.ref fa) → ∃ (K : PySem.W.Frag) (fd : FuncData), K.In h ∧ (∀ (s : Shared) (u : Value), BindsTo s fd ⟨[u], []⟩ [(x, u)]) ∧
      ∀ base : Heap, K.In base → base.Ns mainGlobals mg → LawAt l.prog w K mg base fa fd [x] (spOf K 1 (CLaw ClawT))) :
    PySem.W.WalkO q loose XP YP l.row.toRowW d [] (fun f vs => PySem.call f vs) := by
  apply Att.attach_call hn hdf
  intro w s₀ s₁ mg mb fa o pm cd doc a vs ns G Y ho hd hcd hmg hobj hints hlen hg
  obtain ⟨K, fd, KX, bnd, prom⟩ := F w mg fa _ Y G.T.g hmg
  obtain ⟨sq, env, fin⟩ := law_start (P := l.prog) (w := w) KX G.T.g G.T.b G.T.builtins G.T.nolimit hg hobj hints (Nat.le_trans hlen (by decide))
  refine codeAny_mono (prom _ env.mod.kin env.mod.glob s₁ _ ⟨[.ref a], []⟩ [.ref a] [.ref a] (fun v _ => v = .bl true) (fun _ _ _ => False) env (bnd s₁ (.ref a)) (.cons rfl .nil) (law_sp hlen sq)) ?_
  intro r s' z
  match r, z with
  | .error e, z => exact (cx_false z).elim
  | .ok (.ret u), z =>
    obtain ⟨rfl, rest⟩ := fin u s' z
    exact ⟨rfl, rest⟩
section
open PySem PySem.W PySem.Calls PyProof.Rows HandSHeadRun
noncomputable abbrev endK (r : OpenRow) (M : Nat) (w : World) (os : OsState) : Option SharedT := endF (stepQ (denQ tabQ) r.prog w) M r.prog w os
noncomputable abbrev lookK (r : OpenRow) (w : World) (s : SharedT) : Bool := looksF r.prog (boot_heap w.params) s.abs
noncomputable abbrev seenK (r : OpenRow) (q : Program) (loose : List PySem.Str) (s : SharedT) := seenQ q loose (importedModules r.prog.main.body) (fun s => xlAt q [] s && recOk r.toRowW.records s) s.abs
theorem runEq_of {r : OpenRow} {q : Program} {H : Hook} {ob : SharedT → H.α} {M : Nat} {loose : List PySem.Str} {w : World}
    (a : ∀ os, (endK r M w os).map (lookK r w) = some true) (b : ∀ os, (endK r M w os).map (seenK r q loose) = some (openGood q loose))
    (c : ∀ os, (endK r M w os).map ob = some (H.val w)) : RunEq r q H ob M loose w := by
  intro os
  obtain ⟨s, h1, h2⟩ := Option.map_eq_some_iff.mp (a os)
  have h3 := b os
  have h4 := c os
  unfold endK at h1 h3 h4
  rw [h1] at h3 h4 ⊢
  have h3 := Option.some.inj h3
  have h4 := Option.some.inj h4
  unfold lookK at h2
  unfold seenK at h3
  exact congrArg some (Prod.ext h2 (Prod.ext h3 h4))
end
theorem obsM_split {fa : List He.Fa} {fn : List He.FnD} {ck : List (PySem.W.Frag → Bool)} {K : PySem.W.Frag} (a : obsM fa [] ck K = ((true, []), true)) (b : obsM [] fn [] K = (He.valE fn, true)) : obsM fa fn ck K = (He.valE fn, true) := by
  have a1 : ((fa.all fun f => f.ok K) && ([] : List He.FnD).all fun d => (He.Fa.code d.at_ d.qual).ok K) = true := congrArg (fun z : AlM => z.1.1) a
  have a2 : (ck.all fun f => f K) = true := congrArg (fun z : AlM => z.2) a
  have b1 : (([] : List He.Fa).all (fun f => f.ok K) && fn.all fun d => (He.Fa.code d.at_ d.qual).ok K) = true := congrArg (fun z : AlM => z.1.1) b
  have b2 : (fn.map fun d => He.fnObs K d.at_) = fn.map He.FnD.val := congrArg (fun z : AlM => z.1.2) b
  have a1 := (Bool.and_eq_true_iff.mp a1).1
  have b1 := (Bool.and_eq_true_iff.mp b1).2
  show ((((fa.all fun f => f.ok K) && fn.all fun d => (He.Fa.code d.at_ d.qual).ok K), fn.map fun d => He.fnObs K d.at_), ck.all fun f => f K) = ((true, fn.map He.FnD.val), true)
  rw [a1, a2, b1, b2]
  rfl
section
open PySem PySem.W PySem.Calls PyProof.Rows HandSHeadRun
theorem runC_of {r : OpenRow} {n M : Nat} {fa : List He.Fa} {fn : List He.FnD} {ck : List (PySem.W.Frag → Bool)} {w : World}
    (a : ∀ os, (endK r M w os).map (fun s => obsMG n fa [] ck (getT s)) = some ((true, []), true)) (b : ∀ os, (endK r M w os).map (fun s => obsMG n [] fn [] (getT s)) = some (He.valE fn, true)) :
    ∀ os, (endK r M w os).map (fun s => obsMG n fa fn ck (getT s)) = some (He.valE fn, true) := by
  intro os
  obtain ⟨s, h1, h2⟩ := Option.map_eq_some_iff.mp (a os)
  have h3 := b os
  rw [h1] at h3 ⊢
  exact congrArg some (obsM_split h2 (Option.some.inj h3))
end
end Dl

namespace K72
open PySem L2 Dl
def top (i : Nat) : Stmt := PySem.Challenge.pw_layerask_k72_tables_pick.main.body.getD i (.Pass ⟨0, 0, 0, 0⟩)
abbrev s_FieldError_init : Stmt := inClass (top 2) 0
theorem sc_FieldError_init : FnScope ["self", "number"] ["self", "number"] (defScope s_FieldError_init) := ⟨rfl, rfl, rfl, by decide +kernel, rfl, by decide +kernel, by decide +kernel⟩
abbrev s_power : Stmt := top 4
theorem sc_power : FnScope ["base", "exponent", "p", "result", "square"] ["base", "exponent", "p"] (defScope s_power) := ⟨rfl, rfl, rfl, by decide +kernel, rfl, by decide +kernel, by decide +kernel⟩
abbrev s_inverse : Stmt := top 5
theorem sc_inverse : FnScope ["number", "p"] ["number", "p"] (defScope s_inverse) := ⟨rfl, rfl, rfl, by decide +kernel, rfl, by decide +kernel, by decide +kernel⟩
abbrev s_times_linear : Stmt := top 7
theorem sc_times_linear : FnScope ["values", "k", "p", "found", "at"] ["values", "k", "p"] (defScope s_times_linear) := ⟨rfl, rfl, rfl, by decide +kernel, rfl, by decide +kernel, by decide +kernel⟩
abbrev s_coefficients : Stmt := top 8
theorem sc_coefficients : FnScope ["entries", "p", "many", "found", "k", "part", "scale", "other", "factor", "at"] ["entries", "p"] (defScope s_coefficients) := ⟨rfl, rfl, rfl, by decide +kernel, rfl, by decide +kernel, by decide +kernel⟩
abbrev s_balanced : Stmt := top 9
theorem sc_balanced : FnScope ["row", "half"] ["row"] (defScope s_balanced) := ⟨rfl, rfl, rfl, by decide +kernel, rfl, by decide +kernel, by decide +kernel⟩
abbrev s_picking : Stmt := top 10
theorem sc_picking : FnScope ["entries", "p", "row", "numbers", "k"] ["entries", "p"] (defScope s_picking) := ⟨rfl, rfl, rfl, by decide +kernel, rfl, by decide +kernel, by decide +kernel⟩
abbrev s__law_state : Stmt := top 12
theorem sc__law_state : FnScope ["_law_script", "_law_seed", "_law_cell"] ["_law_script"] (defScope s__law_state) := ⟨rfl, rfl, rfl, by decide +kernel, rfl, by decide +kernel, by decide +kernel⟩
abbrev s__law_draw : Stmt := top 13
theorem sc__law_draw : FnScope ["_law_state_here", "_law_many", "_law_cells", "_law_mixed", "_law_value"] ["_law_state_here", "_law_many"] (defScope s__law_draw) := ⟨rfl, rfl, rfl, by decide +kernel, rfl, by decide +kernel, by decide +kernel⟩
abbrev s__law_entries : Stmt := top 14
theorem sc__law_entries : FnScope ["_law_state_here", "_law_p", "_law_entries_here", "_law_k"] ["_law_state_here", "_law_p"] (defScope s__law_entries) := ⟨rfl, rfl, rfl, by decide +kernel, rfl, by decide +kernel, by decide +kernel⟩
abbrev s__law_at : Stmt := top 15
theorem sc__law_at : FnScope ["_law_numbers", "_law_x", "_law_p", "_law_total", "_law_k"] ["_law_numbers", "_law_x", "_law_p"] (defScope s__law_at) := ⟨rfl, rfl, rfl, by decide +kernel, rfl, by decide +kernel, by decide +kernel⟩
abbrev s__law_sum : Stmt := top 16
theorem sc__law_sum : FnScope ["_law_numbers", "_law_first", "_law_many", "_law_half"] ["_law_numbers", "_law_first", "_law_many"] (defScope s__law_sum) := ⟨rfl, rfl, rfl, by decide +kernel, rfl, by decide +kernel, by decide +kernel⟩
abbrev s_law : Stmt := top 17
theorem sc_law : FnScope ["_law_script", "_law_state_here", "_law_p", "_law_entries_here", "_law_given", "_law_numbers", "_law_number", "_law_k"] ["_law_script"] (defScope s_law) := ⟨rfl, rfl, rfl, by decide +kernel, rfl, by decide +kernel, by decide +kernel⟩
structure Txt (K : PySem.W.Frag) (mg : Str → Option Value) : Prop where
  d_power : DefT K mg "power" s_power ["base", "exponent", "p"]
  d_inverse : DefT K mg "inverse" s_inverse ["number", "p"]
  d_times_linear : DefT K mg "times_linear" s_times_linear ["values", "k", "p"]
  d_coefficients : DefT K mg "coefficients" s_coefficients ["entries", "p"]
  d_balanced : DefT K mg "balanced" s_balanced ["row"]
  d_picking : DefT K mg "picking" s_picking ["entries", "p"]
  d__law_state : DefT K mg "_law_state" s__law_state ["_law_script"]
  d__law_draw : DefT K mg "_law_draw" s__law_draw ["_law_state_here", "_law_many"]
  d__law_entries : DefT K mg "_law_entries" s__law_entries ["_law_state_here", "_law_p"]
  d__law_at : DefT K mg "_law_at" s__law_at ["_law_numbers", "_law_x", "_law_p"]
  d__law_sum : DefT K mg "_law_sum" s__law_sum ["_law_numbers", "_law_first", "_law_many"]
  d_law : DefT K mg "law" s_law ["_law_script"]
  n_abs : mg "abs" = none
  n_bool : mg "bool" = none
  n_int : mg "int" = none
  n_isinstance : mg "isinstance" = none
  n_len : mg "len" = none
  n_list : mg "list" = none
  n_min : mg "min" = none
  n_range : mg "range" = none
  n_repr : mg "repr" = none
  e_FieldError : ErrT K mg "FieldError" "FieldError.__init__" s_FieldError_init ["self", "number"] ["number"]
  i_FieldError : InitB K mg "LayeraskError"
def nm0 : List PySem.Str := ["__name__", "LayeraskError", "FieldError", "power", "inverse", "times_linear", "coefficients", "balanced", "picking", "_law_state", "_law_draw", "_law_entries", "_law_at", "_law_sum"]
def fa0 : List He.Fa := [.glo "power",
  .keep "power",
  .glo "inverse",
  .keep "inverse",
  .glo "times_linear",
  .keep "times_linear",
  .glo "coefficients",
  .keep "coefficients",
  .glo "balanced",
  .keep "balanced",
  .glo "picking",
  .keep "picking",
  .glo "_law_state",
  .keep "_law_state",
  .glo "_law_draw",
  .keep "_law_draw",
  .glo "_law_entries",
  .keep "_law_entries",
  .glo "_law_at",
  .keep "_law_at"]
def fa1 : List He.Fa := [.glo "_law_sum",
  .keep "_law_sum",
  .glo "law",
  .keep "law",
  .free "abs",
  .free "bool",
  .free "int",
  .free "isinstance",
  .free "len",
  .free "list",
  .free "min",
  .free "range",
  .free "repr"]
def fn0 : List He.FnD := [⟨("power", none), "power", "power", defArgs s_power, defBody s_power, defScope s_power⟩,
  ⟨("inverse", none), "inverse", "inverse", defArgs s_inverse, defBody s_inverse, defScope s_inverse⟩,
  ⟨("times_linear", none), "times_linear", "times_linear", defArgs s_times_linear, defBody s_times_linear, defScope s_times_linear⟩,
  ⟨("coefficients", none), "coefficients", "coefficients", defArgs s_coefficients, defBody s_coefficients, defScope s_coefficients⟩,
  ⟨("balanced", none), "balanced", "balanced", defArgs s_balanced, defBody s_balanced, defScope s_balanced⟩,
  ⟨("picking", none), "picking", "picking", defArgs s_picking, defBody s_picking, defScope s_picking⟩,
  ⟨("_law_state", none), "_law_state", "_law_state", defArgs s__law_state, defBody s__law_state, defScope s__law_state⟩,
  ⟨("_law_draw", none), "_law_draw", "_law_draw", defArgs s__law_draw, defBody s__law_draw, defScope s__law_draw⟩,
  ⟨("_law_entries", none), "_law_entries", "_law_entries", defArgs s__law_entries, defBody s__law_entries, defScope s__law_entries⟩,
  ⟨("_law_at", none), "_law_at", "_law_at", defArgs s__law_at, defBody s__law_at, defScope s__law_at⟩,
  ⟨("_law_sum", none), "_law_sum", "_law_sum", defArgs s__law_sum, defBody s__law_sum, defScope s__law_sum⟩,
  ⟨("law", none), "law", "law", defArgs s_law, defBody s_law, defScope s_law⟩,
  ⟨((PySem.Str.ofString "FieldError"), some "__init__"), "__init__", "FieldError.__init__", defArgs s_FieldError_init, defBody s_FieldError_init, defScope s_FieldError_init⟩]
def ck0 : List (PySem.W.Frag → Bool) := [errB "FieldError" ["number"],
  initBB "LayeraskError"]
def names : List PySem.Str := nm0
def fa : List He.Fa := fa0 ++ fa1
def fn : List He.FnD := fn0
def ck : List (PySem.W.Frag → Bool) := ck0
abbrev R : PySem.W.OpenRow := PySem.W.OpenLaw.row PySem.Challenge.rw_layerask_k72_tables_pick
abbrev hk : PySem.W.Hook := hookM 1500 fa fn ck
def ob (s : PySem.W.SharedT) : AlM := obsMG 1500 fa fn ck (HandSHeadRun.getT s)
theorem ob_eq (s : PySem.W.SharedT) : ob s = hk.obs s.abs := obsMG_eq (HandSHeadRun.getT_eq s)
theorem runA (w : World) : ∀ os, (endK R 20000 w os).map (lookK R w) = some true := by
  intro os
  kernel_rfl
theorem runB (w : World) : ∀ os, (endK R 20000 w os).map (seenK R (PySem.W.view R.prog [17]) names) = some (PySem.W.openGood (PySem.W.view R.prog [17]) names) := by
  intro os
  kernel_rfl
theorem runC1 (w : World) : ∀ os, (endK R 20000 w os).map (fun s => obsMG 1500 fa [] ck (HandSHeadRun.getT s)) = some ((true, []), true) := by
  intro os
  kernel_rfl
theorem runC2 (w : World) : ∀ os, (endK R 20000 w os).map (fun s => obsMG 1500 [] fn [] (HandSHeadRun.getT s)) = some (He.valE fn, true) := by
  intro os
  kernel_rfl
theorem run (w : World) : HandSHeadRun.RunEq R (PySem.W.view R.prog [17]) hk ob 20000 names w := runEq_of (runA w) (runB w) (runC_of (runC1 w) (runC2 w))
theorem he_txt {K : PySem.W.Frag} {h : Heap} {mg : Str → Option Value} (X : K.In h) (G : h.Ns mainGlobals mg) (c : SaysM fa fn ck K) : Txt K mg := {
  d_power := defT_he X G c 0 0 1 rfl rfl rfl (fun _ _ _ _ _ _ us hl => match us, hl with | [_, _, _], _ => rfl)
  d_inverse := defT_he X G c 1 2 3 rfl rfl rfl (fun _ _ _ _ _ _ us hl => match us, hl with | [_, _], _ => rfl)
  d_times_linear := defT_he X G c 2 4 5 rfl rfl rfl (fun _ _ _ _ _ _ us hl => match us, hl with | [_, _, _], _ => rfl)
  d_coefficients := defT_he X G c 3 6 7 rfl rfl rfl (fun _ _ _ _ _ _ us hl => match us, hl with | [_, _], _ => rfl)
  d_balanced := defT_he X G c 4 8 9 rfl rfl rfl (fun _ _ _ _ _ _ us hl => match us, hl with | [_], _ => rfl)
  d_picking := defT_he X G c 5 10 11 rfl rfl rfl (fun _ _ _ _ _ _ us hl => match us, hl with | [_, _], _ => rfl)
  d__law_state := defT_he X G c 6 12 13 rfl rfl rfl (fun _ _ _ _ _ _ us hl => match us, hl with | [_], _ => rfl)
  d__law_draw := defT_he X G c 7 14 15 rfl rfl rfl (fun _ _ _ _ _ _ us hl => match us, hl with | [_, _], _ => rfl)
  d__law_entries := defT_he X G c 8 16 17 rfl rfl rfl (fun _ _ _ _ _ _ us hl => match us, hl with | [_, _], _ => rfl)
  d__law_at := defT_he X G c 9 18 19 rfl rfl rfl (fun _ _ _ _ _ _ us hl => match us, hl with | [_, _, _], _ => rfl)
  d__law_sum := defT_he X G c 10 20 21 rfl rfl rfl (fun _ _ _ _ _ _ us hl => match us, hl with | [_, _, _], _ => rfl)
  d_law := defT_he X G c 11 22 23 rfl rfl rfl (fun _ _ _ _ _ _ us hl => match us, hl with | [_], _ => rfl)
  n_abs := He.free_ok X G (c.fact 24 rfl)
  n_bool := He.free_ok X G (c.fact 25 rfl)
  n_int := He.free_ok X G (c.fact 26 rfl)
  n_isinstance := He.free_ok X G (c.fact 27 rfl)
  n_len := He.free_ok X G (c.fact 28 rfl)
  n_list := He.free_ok X G (c.fact 29 rfl)
  n_min := He.free_ok X G (c.fact 30 rfl)
  n_range := He.free_ok X G (c.fact 31 rfl)
  n_repr := He.free_ok X G (c.fact 32 rfl)
  e_FieldError := errT_he X G c 12 0 rfl rfl (fun _ _ _ _ _ _ us hl => match us, hl with | [_, _], _ => rfl)
  i_FieldError := initB_he X G c 1 rfl
  }
end K72
section
open PySem PySem.W PySem.Calls PyProof.Rows
theorem K72.pre (hc : PySem.W.WalkO (PySem.W.view (PySem.W.OpenLaw.row PySem.Challenge.rw_layerask_k72_tables_pick).prog [17]) K72.names (PySem.W.XL (PySem.W.view (PySem.W.OpenLaw.row PySem.Challenge.rw_layerask_k72_tables_pick).prog [17]) []) K72.hk.says (PySem.W.OpenRow.toRowW (PySem.W.OpenLaw.row PySem.Challenge.rw_layerask_k72_tables_pick)) (HandSHeadRun.topDef (PySem.W.OpenLaw.row PySem.Challenge.rw_layerask_k72_tables_pick).prog 17) [] (fun f vs => PySem.call f vs)) : PySem.Challenge.rw_layerask_k72_tables_pick.Holds := by
  w_on; o_law
  refine HandSHeadRun.head_any (r := PySem.W.OpenLaw.row PySem.Challenge.rw_layerask_k72_tables_pick) (q := PySem.W.view (PySem.W.OpenLaw.row PySem.Challenge.rw_layerask_k72_tables_pick).prog [17]) (H := K72.hk) (ob := K72.ob) (M := 20000) (loose := K72.names) (d := HandSHeadRun.topDef (PySem.W.OpenLaw.row PySem.Challenge.rw_layerask_k72_tables_pick).prog 17) (kwd := []) K72.ob_eq
    (by kernel_rfl) (fun s => by kernel_rfl) K72.run (by kernel_rfl) (by kernel_rfl) (by kernel_rfl) (by rfl) (by first | assumption | decide +kernel) (by decide +kernel) ⟨rfl, rfl, rfl, rfl, rfl, by decide +kernel⟩ ?hw hc
  case hw => w_witness2
end
namespace Dl
open PySem L2
local macro_rules | `(tactic| walk_at "dl") => `(tactic| try simp only [dSeq, dSet, dRaise_one, dRaise_two, dTryAs, dXf, dIsE, List.lookup_cons, List.lookup_nil, beq_self_eq_true, Bool.false_eq_true, if_false, dOp, dUn, dVar, dC, dCB, dCons, dNil, dRet, dRetN, dIf, dB, dAnd, dOr, dNot, dDrop, dNext, dMethL, dSetIx, dAndV, dOrV, dNotV, dBlV, dIfE, dLst, dTup, dLstM, dCall, dChain, dAsg, dgName, dgTup, bindD, asT, dFor, diList, diRng1, diRng2, diEnumerate, diZip, diReversed, dLc, dLcM, dYes, wipeD, dAug, dSl, dSlT, dpN, dpS,
  oI, oI0, oB0, oAdd, oNeg, oEq, oNe, oIx, oIsN, oNotN, isNon, oShl, oApp, oPop, oPopAt, cLen, cInt, cAbs, cSum, cMax2, cMin2, cList, cIsi, tyD, asL, asF, asK, moL_lst, ModC, DivC,
  List.getElem?_cons_zero, List.getElem?_cons_succ, List.set_cons_zero, List.set_cons_succ, List.getElem?_nil, List.length_cons, List.length_nil, List.length_map, Option.map_some, Option.bind_some, Option.isSome_some, if_true, true_and, and_true, MM.push])
local macro_rules | `(tactic| walk_at "dx") => `(tactic| try simp only [eq_self_iff_true, okE_int, okE_bl, okE_non, eqD_int, eqD_bl, kq_NoneType_int, kq_NoneType_bool, kq_NoneType_list, kq_NoneType_tuple, kq_NoneType_str, kq_bool_int, kq_bool_bool, kq_bool_list, kq_bool_tuple, kq_bool_str, kq_int_int, kq_int_bool, kq_int_list, kq_int_tuple, kq_int_str, kq_str_int, kq_str_bool, kq_str_list, kq_str_tuple, kq_str_str, kq_list_int, kq_list_bool, kq_list_list, kq_list_tuple, kq_list_str, kq_tuple_int, kq_tuple_bool, kq_tuple_list, kq_tuple_tuple, kq_tuple_str, oInL, oIsB, oNotB, oEqH, oNeH, oShr, oExt, cMaxL, cMinL, cAny, cAll, cTuple, cListM, dRevL, dFld, dSetF, dAugF, dMeth, dMake, moI_ins, app_len, set_app, List.contains_cons, List.contains_nil, Bool.true_or,  Bool.true_eq_false, decide_true, not_true_eq_false, not_false_eq_true, Bool.not_true, Bool.not_false, decide_eq_true_eq, Bool.not_eq_true', decide_eq_false_iff_not, dSeq, dSet, dRaise_one, dRaise_two, dTryAs, dXf, dIsE, List.lookup_cons, List.lookup_nil, beq_self_eq_true, Bool.false_eq_true, if_false, dOp, dUn, dVar, dC, dCB, dCons, dNil, dRet, dRetN, dIf, dB, dAnd, dOr, dNot, dDrop, dNext, dMethL, dSetIx, dAndV, dOrV, dNotV, dBlV, dIfE, dLst, dTup, dLstM, dCall, dChain, dAsg, dgName, dgTup, bindD, asT, dFor, diList, diRng1, diRng2, diEnumerate, diZip, diReversed, dLc, dLcM, dYes, wipeD, dAug, dSl, dSlT, dpN, dpS,
  oI, oI0, oB0, oAdd, oNeg, oEq, oNe, oIx, oIsN, oNotN, isNon, oShl, oApp, oPop, oPopAt, cLen, cInt, cAbs, cSum, cMax2, cMin2, cList, cIsi, tyD, asL, asF, asK, moL_lst, ModC, DivC,
  List.getElem?_cons_zero, List.getElem?_cons_succ, List.set_cons_zero, List.set_cons_succ, List.getElem?_nil, List.length_cons, List.length_nil, List.length_map, Option.map_some, Option.bind_some, Option.isSome_some, if_true, true_and, and_true, MM.push])
local macro_rules | `(tactic| walk_at "lim") => `(tactic| repeat (first | (refine ⟨by decide, ?_⟩) | (refine ⟨by (try simp only [List.length_map, List.length_dropLast, List.length_append, List.length_cons, List.length_nil, List.length_replicate, List.length_take, List.length_drop, List.length_range]); (show _ ≤ 16777216); omega, ?_⟩)))

set_option hygiene false in
local macro_rules | `(tactic| walk_at "stp") => `(tactic| (refine dSeq_k fun k1 h1 => ?_; walk_at "dx"))
set_option hygiene false in
local macro_rules | `(tactic| walk_at "nxt") => `(tactic| (subst h1; (try dsimp only); refine dSeq_k fun k1 h1 => ?_; walk_at "dx"))
set_option hygiene false in
local macro_rules | `(tactic| walk_at "lst") => `(tactic| (subst h1; (try dsimp only); walk_at "dx"))
set_option hygiene false in
local macro_rules | `(tactic| walk_at "nxt2") => `(tactic| (subst h2; (try dsimp only); refine dSeq_k fun k2 h2 => ?_; walk_at "dx"))
set_option hygiene false in
local macro_rules | `(tactic| walk_at "stp2") => `(tactic| (refine dSeq_k fun k2 h2 => ?_; walk_at "dx"))
set_option hygiene false in
local macro_rules | `(tactic| walk_at "lst2") => `(tactic| (subst h2; (try dsimp only); walk_at "dx"))
set_option hygiene false in
local macro_rules | `(tactic| walk_at "nx0") => `(tactic| (subst h1; (try dsimp only); refine dSeq_k fun k1 h1 => ?_))

/-! ### defs of the program that many laws reach -/
def PM (p : Int) : Prop := 2 ≤ p ∧ p ≤ 2147483647
theorem mod_in {p : Int} (hp : 2 ≤ p) {z : Int} : 0 ≤ z % p ∧ z % p < p := ⟨Int.emod_nonneg _ (by omega), Int.emod_lt_of_pos _ (by omega)⟩
theorem Cg.eq {p a b : Int} (h : Cg p a b) (a0 : 0 ≤ a ∧ a < p) (b0 : 0 ≤ b ∧ b < p) : a = b := by
  unfold Cg at h
  rw [Int.emod_eq_of_lt a0.1 a0.2, Int.emod_eq_of_lt b0.1 b0.2] at h
  exact h
def C_power : DC := fun ds m Φ _ => ∃ (b p : Int) (e : Nat), ds = [.int b, .int e, .int p] ∧ PM p ∧ Φ (.int (b ^ e % p)) m
def W_power : DS := dSeq (dSet 3 (dOp oMod (dC (.int 1)) (dVar 2))) (dSeq (dSet 4 (dOp oMod (dVar 0) (dVar 2))) (dSeq (dWhile (dB (dOp oGt (dVar 1) (dC (.int 0)))) (dSeq (dIf (dB (dOp oEq (dOp oMod (dVar 1) (dC (.int 2))) (dC (.int 1)))) (dSet 3 (dOp oMod (dOp oMul (dVar 3) (dVar 4)) (dVar 2))) (dNext)) (dSeq (dSet 4 (dOp oMod (dOp oMul (dVar 4) (dVar 4)) (dVar 2))) (dAug 1 (oI CDiv fun i j => i / j) (dC (.int 2)))))) (dRet (dVar 3))))
theorem rd_power : ∀ ds m Φ Ψ, ds.length = 3 → C_power ds m Φ Ψ → W_power { nx := fun _ m' => Φ .non m', rt := Φ } (fun _ => Ψ) (ds.map some ++ List.replicate (5 - ds.length) none) m := by
  intro ds m Φ Ψ _ h
  obtain ⟨b, p, e, rfl, ⟨hp, hp2⟩, q⟩ := h
  change W_power _ _ [some (.int b), some (.int e), some (.int p), none, none] m
  unfold W_power
  refine dSeq_k fun k1 h1 => ?_
  walk_at "dl"
  refine ⟨by omega, ?_⟩
  subst h1
  refine dSeq_k fun k1 h1 => ?_
  walk_at "dl"
  refine ⟨by omega, ?_⟩
  subst h1
  refine dSeq_k fun k1 h1 => ?_
  refine ⟨fun c ρ m' => ∃ (r s : Int), ρ = [some (.int b), some (.int c), some (.int p), some (.int r), some (.int s)] ∧ m' = m ∧ 0 ≤ r ∧ r < p ∧ 0 ≤ s ∧ s < p ∧ Cg p (r * s ^ c) (b ^ e), ⟨e, _, _, rfl, rfl, (mod_in hp).1, (mod_in hp).2, (mod_in hp).1, (mod_in hp).2, ?_⟩, ?_⟩
  · refine (Cg.mul .mod (Cg.pow .mod e)).trans (.of_eq (Int.one_mul _))
  · rintro c ρ m' ⟨r, s, rfl, rfl, r0, r1, s0, s1, hc⟩
    walk_at "dl"
    by_cases c0 : c = 0
    · subst c0
      rw [decide_eq_false (by decide), if_neg (by decide)]
      subst h1
      walk_at "dl"
      rw [Int.pow_zero, Int.mul_one] at hc
      have : r = b ^ e % p := Cg.eq (hc.trans Cg.mod.symm) ⟨r0, r1⟩ (mod_in hp)
      rw [this]
      exact q
    · rw [decide_eq_true (by omega), if_pos rfl]
      refine ⟨by decide, rfl, rfl, ?_⟩
      rw [eqD_int]
      have hlt : c / 2 < c := by omega
      have hcd : ((c : Nat) : Int) / 2 = ((c / 2 : Nat) : Int) := by omega
      rw [hcd]
      have sq : Cg p ((s * s % p) ^ (c / 2)) (s ^ (2 * (c / 2))) := by
        refine (Cg.pow .mod _).trans (.of_eq ?_)
        rw [Int.pow_mul]
        congr 1
        rw [Int.pow_succ, Int.pow_succ, Int.pow_zero, Int.one_mul]
      by_cases hb : (c : Int) % 2 = 1
      · rw [if_pos (decide_eq_true hb)]
        refine ⟨mulR s0 (by omega), by omega, mulR s0 (by omega), by omega, ⟨by decide, by decide⟩, c / 2, hlt, _, _, rfl, (mod_in hp).1, (mod_in hp).2, (mod_in hp).1, (mod_in hp).2, ?_⟩
        refine (Cg.mul .mod sq).trans (Cg.trans (.of_eq ?_) hc)
        have : c = 2 * (c / 2) + 1 := by omega
        rw [show s ^ c = s ^ (2 * (c / 2) + 1) by rw [← this], Int.pow_succ, Int.mul_assoc, Int.mul_comm s]
      · rw [if_neg (by simpa using hb)]
        refine ⟨mulR s0 (by omega), by omega, ⟨by decide, by decide⟩, c / 2, hlt, _, _, rfl, r0, r1, (mod_in hp).1, (mod_in hp).2, ?_⟩
        refine (Cg.mul .refl sq).trans (Cg.trans (.of_eq ?_) hc)
        have : c = 2 * (c / 2) := by omega
        rw [show s ^ c = s ^ (2 * (c / 2)) by rw [← this]]
/-- the inverse, or the error -/
def C_inverse : DC := fun ds m Φ Ψ => ∃ (a p : Int), ds = [.int a, .int p] ∧ PM p ∧ (a % p = 0 → Ψ "FieldError" [("number", .int a)] m) ∧ (a % p ≠ 0 → Φ (.int (a ^ (p - 2).toNat % p)) m)
def W_inverse : DS := dSeq (dIf (dB (dOp oEq (dOp oMod (dVar 0) (dVar 1)) (dC (.int 0)))) (dRaise "FieldError" ["number"] (dCons (dVar 0) (dNil))) (dNext)) (dRet (dCall 3 C_power (dCons (dVar 0) (dCons (dOp oSub (dVar 1) (dC (.int 2))) (dCons (dVar 1) (dNil))))))
theorem rd_inverse : ∀ ds m Φ Ψ, ds.length = 2 → C_inverse ds m Φ Ψ → W_inverse { nx := fun _ m' => Φ .non m', rt := Φ } (fun _ => Ψ) (ds.map some ++ List.replicate (2 - ds.length) none) m := by
  intro ds m Φ Ψ _ h
  obtain ⟨a, p, rfl, hp, q1, q2⟩ := h
  have hp1 := hp.1
  change W_inverse _ _ [some (.int a), some (.int p)] m
  unfold W_inverse
  refine dSeq_k fun k1 h1 => ?_
  walk_at "dl"
  refine ⟨by omega, rfl, rfl, ?_⟩
  rw [eqD_int]
  by_cases ha : a % p = 0
  · rw [if_pos (by simpa using ha)]
    walk_at "dl"
    exact q1 ha
  · rw [if_neg (by simpa using ha)]
    subst h1
    walk_at "dl"
    exact ⟨a, p, (p - 2).toNat, by rw [Int.toNat_of_nonneg (by omega)], hp, q2 ha⟩
/-! ### circuits -/
inductive Gate where
  | lin (a x b y : Int)
  | mul (c x y : Int)
/-! ### a comprehension whose items look at what changes -/
/-! ### rows, runs -/
/-! the values of a circuit -/
def gv (p : Int) (below : List Int) : Gate → Int
  | .lin a x b y => (a * gi below x + b * gi below y) % p
  | .mul c x y => c * gi below x * gi below y % p
/-- all columns of all layers, the last layer being the inputs -/
def rr (p : Int) : List (List Gate) → List Int → List (List Int)
  | [], inp => [inp]
  | l :: ls, inp => (l.map (gv p ((rr p ls inp).headD []))) :: rr p ls inp
def InP (p : Int) (xs : List Int) : Prop := ∀ x ∈ xs, 0 ≤ x ∧ x < p
theorem InP.gi {p : Int} {xs : List Int} (h : InP p xs) {z : Int} (h0 : 0 ≤ z) (hz : z < xs.length) : 0 ≤ gi xs z ∧ gi xs z < p := by
  have hl : z.toNat < xs.length := by omega
  unfold Dl.gi
  rw [List.getD_eq_getElem?_getD, List.getElem?_eq_getElem hl]
  exact h _ (List.getElem_mem hl)

theorem InP.gN {p : Int} {xs : List Int} (h : InP p xs) {i : Nat} (hz : i < xs.length) : 0 ≤ Dl.gi xs (i : Nat) ∧ Dl.gi xs (i : Nat) < p := h.gi (by omega) (by omega)

/-! ### the value of a polynomial that is told by any values -/
/-! ### folding, products, sums over the corners -/
/-! ### sums over a comprehension with two walks -/
/-! ### a def that calls itself: the induction's start; the sum of two lists as a list of one's own -/
theorem ok_none {P : Program} {w : World} {K : PySem.W.Frag} {mg : Str → Option Value} {base : Heap} {x qual : Str} {st : Stmt} {f : Addr} {fd : FuncData} {N ps : List Str} {k : Nat} {C : DC} (F : Fun K x qual st f fd) (S : FnScope N ps (defScope st))
    (hC : ∀ ds m Φ Ψ, ¬ C ds m Φ Ψ) : FnOk P w K mg base (L2.CX P w) (k + 1) f fd ps (spOf K ps.length C) := by
  refine F.okX S (fun vs H Q E h => h.1) fun cdv A outer s H vs Q E hr h => ?_
  obtain ⟨hl, w0, ds, m, Φ, Ψ, h0, r, vl, xl, c⟩ := h
  exact absurd c (hC _ _ _ _)
def oAddM : DO := fun x y m Φ => match asK m x, asK m y with
  | some xs, some ys => xs.length + ys.length ≤ LIM ∧ Φ (.hnd m.M.length) (m.push (.lst (xs ++ ys)))
  | _, _ => False
theorem opl_addM {K : PySem.W.Frag} : OpL K (rAddAll K) oAddM := fun w m H x y u v Q Φ h r1 r2 vl q => by
  unfold oAddM at q
  split at q
  · rename_i e1 e2
    obtain ⟨a, us, rfl, ha, ra⟩ := asK_ok h e1 r1
    obtain ⟨b, vs, rfl, hb, rb⟩ := asK_ok h e2 r2
    refine .inr (.inr (.inl ⟨a, b, us, vs, rfl, rfl, ha, hb, lim_sz (by rw [ra.length, rb.length]; exact q.1), fun p hp => ?_⟩))
    exact vl.newM h hp (ra.append rb) q.2
  · exact q.elim

end Dl
namespace K72
open PySem L2 Dl
local macro_rules | `(tactic| walk_at "dl") => `(tactic| try simp only [dSeq, dSet, dRaise_one, dRaise_two, dTryAs, dXf, dIsE, List.lookup_cons, List.lookup_nil, beq_self_eq_true, Bool.false_eq_true, if_false, dOp, dUn, dVar, dC, dCB, dCons, dNil, dRet, dRetN, dIf, dB, dAnd, dOr, dNot, dDrop, dNext, dMethL, dSetIx, dAndV, dOrV, dNotV, dBlV, dIfE, dLst, dTup, dLstM, dCall, dChain, dAsg, dgName, dgTup, bindD, asT, dFor, diList, diRng1, diRng2, diEnumerate, diZip, diReversed, dLc, dLcM, dYes, wipeD, dAug, dSl, dSlT, dpN, dpS,
  oI, oI0, oB0, oAdd, oNeg, oEq, oNe, oIx, oIsN, oNotN, isNon, oShl, oApp, oPop, oPopAt, cLen, cInt, cAbs, cSum, cMax2, cMin2, cList, cIsi, tyD, asL, asF, asK, moL_lst, ModC, DivC,
  List.getElem?_cons_zero, List.getElem?_cons_succ, List.set_cons_zero, List.set_cons_succ, List.getElem?_nil, List.length_cons, List.length_nil, List.length_map, Option.map_some, Option.bind_some, Option.isSome_some, if_true, true_and, and_true, MM.push])
local macro_rules | `(tactic| walk_at "dx") => `(tactic| try simp only [eq_self_iff_true, okE_int, okE_bl, okE_non, eqD_int, eqD_bl, kq_NoneType_int, kq_NoneType_bool, kq_NoneType_list, kq_NoneType_tuple, kq_NoneType_str, kq_bool_int, kq_bool_bool, kq_bool_list, kq_bool_tuple, kq_bool_str, kq_int_int, kq_int_bool, kq_int_list, kq_int_tuple, kq_int_str, kq_str_int, kq_str_bool, kq_str_list, kq_str_tuple, kq_str_str, kq_list_int, kq_list_bool, kq_list_list, kq_list_tuple, kq_list_str, kq_tuple_int, kq_tuple_bool, kq_tuple_list, kq_tuple_tuple, kq_tuple_str, oInL, oIsB, oNotB, oEqH, oNeH, oShr, oExt, cMaxL, cMinL, cAny, cAll, cTuple, cListM, dRevL, dFld, dSetF, dAugF, dMeth, dMake, moI_ins, app_len, set_app, List.contains_cons, List.contains_nil, Bool.true_or,  Bool.true_eq_false, decide_true, not_true_eq_false, not_false_eq_true, Bool.not_true, Bool.not_false, decide_eq_true_eq, Bool.not_eq_true', decide_eq_false_iff_not, dSeq, dSet, dRaise_one, dRaise_two, dTryAs, dXf, dIsE, List.lookup_cons, List.lookup_nil, beq_self_eq_true, Bool.false_eq_true, if_false, dOp, dUn, dVar, dC, dCB, dCons, dNil, dRet, dRetN, dIf, dB, dAnd, dOr, dNot, dDrop, dNext, dMethL, dSetIx, dAndV, dOrV, dNotV, dBlV, dIfE, dLst, dTup, dLstM, dCall, dChain, dAsg, dgName, dgTup, bindD, asT, dFor, diList, diRng1, diRng2, diEnumerate, diZip, diReversed, dLc, dLcM, dYes, wipeD, dAug, dSl, dSlT, dpN, dpS,
  oI, oI0, oB0, oAdd, oNeg, oEq, oNe, oIx, oIsN, oNotN, isNon, oShl, oApp, oPop, oPopAt, cLen, cInt, cAbs, cSum, cMax2, cMin2, cList, cIsi, tyD, asL, asF, asK, moL_lst, ModC, DivC,
  List.getElem?_cons_zero, List.getElem?_cons_succ, List.set_cons_zero, List.set_cons_succ, List.getElem?_nil, List.length_cons, List.length_nil, List.length_map, Option.map_some, Option.bind_some, Option.isSome_some, if_true, true_and, and_true, MM.push])
local macro_rules | `(tactic| walk_at "lim") => `(tactic| repeat (first | (refine ⟨by decide, ?_⟩) | (refine ⟨by (try simp only [List.length_map, List.length_dropLast, List.length_append, List.length_cons, List.length_nil, List.length_replicate, List.length_take, List.length_drop, List.length_range]); (show _ ≤ 16777216); omega, ?_⟩)))

set_option hygiene false in
local macro_rules | `(tactic| walk_at "stp") => `(tactic| (refine dSeq_k fun k1 h1 => ?_; walk_at "dx"))
set_option hygiene false in
local macro_rules | `(tactic| walk_at "nxt") => `(tactic| (subst h1; (try dsimp only); refine dSeq_k fun k1 h1 => ?_; walk_at "dx"))
set_option hygiene false in
local macro_rules | `(tactic| walk_at "lst") => `(tactic| (subst h1; (try dsimp only); walk_at "dx"))
set_option hygiene false in
local macro_rules | `(tactic| walk_at "nxt2") => `(tactic| (subst h2; (try dsimp only); refine dSeq_k fun k2 h2 => ?_; walk_at "dx"))
set_option hygiene false in
local macro_rules | `(tactic| walk_at "stp2") => `(tactic| (refine dSeq_k fun k2 h2 => ?_; walk_at "dx"))
set_option hygiene false in
local macro_rules | `(tactic| walk_at "lst2") => `(tactic| (subst h2; (try dsimp only); walk_at "dx"))
set_option hygiene false in
local macro_rules | `(tactic| walk_at "nx0") => `(tactic| (subst h1; (try dsimp only); refine dSeq_k fun k1 h1 => ?_))

/-! ### polynomials by their coefficients -/
def ev (cs : List Int) (x : Int) : Int := cs.foldr (fun c r => c + x * r) 0
def lin (k p : Int) : Int → List Int → List Int
  | a, [] => [a]
  | a, v :: r => ((a - k * v) % p) :: lin k p v r
def partsF (p : Int) (k : Nat) : Nat → List Int × Int
  | 0 => ([1], 1)
  | j + 1 => if j = k then partsF p k j else (lin (j : Nat) p 0 (partsF p k j).1, (partsF p k j).2 * ((k : Nat) - (j : Nat)) % p)
def facF (es : List Int) (p : Int) (k : Nat) : Int := Dl.gi es (k : Nat) * ((partsF p k es.length).2 ^ (p - 2).toNat % p) % p
def accF (f P : List Int) (c p : Int) : List Int := (List.range f.length).map fun i : Nat => (Dl.gi f (i : Nat) + c * Dl.gi P (i : Nat)) % p
def coefN (es : List Int) (p : Int) : Nat → List Int
  | 0 => List.replicate es.length 0
  | k + 1 => accF (coefN es p k) (partsF p k es.length).1 (facF es p k) p
def coefF (es : List Int) (p : Int) : List Int := coefN es p es.length
structure EsOK (es : List Int) (p : Int) : Prop where
  pm : PM p
  pr : Prim p
  ei : InP p es
  l1 : 1 ≤ es.length
  l32 : es.length ≤ 32
  lp : (es.length : Int) ≤ p
def starD (c : Int) (k : Nat) : D := .tup [.str (PySem.Str.ofString "*"), .tup [.str (PySem.Str.ofString "num"), .int c], .tup [.str (PySem.Str.ofString "power"), .tup [.str (PySem.Str.ofString "name"), .str (PySem.Str.ofString "x")], .int (k : Nat)]]
/-- the balanced sum -/
def balF : Nat → List D → D
  | 0, _ => .non
  | n + 1, xs => if xs.length = 1 then xs.getD 0 .non else .tup [.str (PySem.Str.ofString "+"), balF n (xs.take ((xs.length + 1) / 2)), balF n (xs.drop ((xs.length + 1) / 2))]
def rowF (cs : List Int) : List D := (List.range cs.length).map fun k => starD (Dl.gi cs (k : Nat)) k
def R_balanced (n : Nat) : DC := fun ds m Φ _ => ∃ xs : List D, ds = [.lst xs] ∧ 1 ≤ xs.length ∧ 2 * xs.length ≤ 2 ^ n ∧ xs.length ≤ 1000 ∧ Φ (balF n xs) m
def C_balanced : DC := R_balanced 8
def R__law_sum (n : Nat) : DC := fun ds m Φ _ => ∃ (cs : List Int) (a b : Nat), ds = [.lst (cs.map D.int), .int (a : Nat), .int (b : Nat)] ∧ 1 ≤ b ∧ 2 * b ≤ 2 ^ n ∧ a + b ≤ cs.length ∧ cs.length ≤ 1000 ∧ Φ (balF n (((rowF cs).drop a).take b)) m
def C__law_sum : DC := R__law_sum 8
def C_times_linear : DC := fun ds m Φ _ => ∃ (vs : List Int) (k p : Int), ds = [.lst (vs.map D.int), .int k, .int p] ∧ PM p ∧ vs.length ≤ 1000 ∧ 0 ≤ k ∧ k ≤ 1000 ∧ Φ (.lst ((lin k p 0 vs).map D.int)) m
def C_coefficients : DC := fun ds m Φ _ => ∃ (es : List Int) (p : Int), ds = [.lst (es.map D.int), .int p] ∧ EsOK es p ∧ Φ (.lst ((coefF es p).map D.int)) m
def C_picking : DC := fun ds m Φ _ => ∃ (es : List Int) (p : Int), ds = [.lst (es.map D.int), .int p] ∧ EsOK es p ∧ Φ (balF 8 (rowF (coefF es p))) m
def C__law_entries : DC := fun ds m Φ _ => ∃ p : Int, ds = [.st 0, .int p] ∧ m.s = 1 ∧ PM p ∧ ∀ es : List Int, InP p es → 1 ≤ es.length → es.length ≤ 32 → (es.length : Int) ≤ p → Φ (.lst (es.map D.int)) m
def C__law_at : DC := fun ds m Φ _ => ∃ (cs : List Int) (x p : Int), ds = [.lst (cs.map D.int), .int x, .int p] ∧ PM p ∧ cs.length ≤ 1000 ∧ 0 ≤ x ∧ x ≤ 1000 ∧ Φ (.int (ev cs x % p)) m

/- times_linear: slots 0=values 1=k 2=p 3=found 4=at -/
def W_times_linear : DS := dSeq (dSet 3 (dOp oAddM (dLst (dCons (dC (.int 0)) (dNil))) (dCB cList (dCons (dVar 0) (dNil))))) (dSeq (dFor (diRng1 (dCons (dCB cLen (dCons (dVar 0) (dNil))) (dNil))) (dgName 4) (dSetIx (dOp oMod (dOp oSub (dOp oIx (dVar 3) (dVar 4)) (dOp oMul (dVar 1) (dOp oIx (dVar 0) (dVar 4)))) (dVar 2)) (dVar 3) (dVar 4))) (dRet (dVar 3)))
/- coefficients: slots 0=entries 1=p 2=many 3=found 4=k 5=part 6=scale 7=other 8=factor 9=at -/
def W_coefficients : DS := dSeq (dSet 2 (dCB cLen (dCons (dVar 0) (dNil)))) (dSeq (dSet 3 (dOp oRepM (dLst (dCons (dC (.int 0)) (dNil))) (dVar 2))) (dSeq (dFor (diRng1 (dCons (dVar 2) (dNil))) (dgName 4) (dSeq (dSet 5 (dLst (dCons (dC (.int 1)) (dNil)))) (dSeq (dSet 6 (dC (.int 1))) (dSeq (dFor (diRng1 (dCons (dVar 2) (dNil))) (dgName 7) (dIf (dB (dOp oNe (dVar 7) (dVar 4))) (dSeq (dSet 5 (dCall 3 C_times_linear (dCons (dVar 5) (dCons (dVar 7) (dCons (dVar 1) (dNil)))))) (dSet 6 (dOp oMod (dOp oMul (dVar 6) (dOp oSub (dVar 4) (dVar 7))) (dVar 1)))) (dNext))) (dSeq (dSet 8 (dOp oMod (dOp oMul (dOp oIx (dVar 0) (dVar 4)) (dCall 2 C_inverse (dCons (dVar 6) (dCons (dVar 1) (dNil))))) (dVar 1))) (dFor (diRng1 (dCons (dVar 2) (dNil))) (dgName 9) (dSetIx (dOp oMod (dOp oAdd (dOp oIx (dVar 3) (dVar 9)) (dOp oMul (dVar 8) (dOp oIx (dVar 5) (dVar 9)))) (dVar 1)) (dVar 3) (dVar 9)))))))) (dRet (dVar 3))))
/- balanced: slots 0=row 1=half -/
def W_balanced (c0 : DC) : DS := dSeq (dIf (dB (dOp oEq (dCB cLen (dCons (dVar 0) (dNil))) (dC (.int 1)))) (dRet (dOp oIx (dVar 0) (dC (.int 0)))) (dNext)) (dSeq (dSet 1 (dOp oDiv (dOp oAdd (dCB cLen (dCons (dVar 0) (dNil))) (dC (.int 1))) (dC (.int 2)))) (dRet (dTup (dCons (dC (.str (PySem.Str.ofString "+"))) (dCons (dCall 1 c0 (dCons (dSl (dVar 0) (dpN) (dpS (dVar 1))) (dNil))) (dCons (dCall 1 c0 (dCons (dSl (dVar 0) (dpS (dVar 1)) (dpN)) (dNil))) (dNil)))))))
/- picking: slots 0=entries 1=p 2=row 3=numbers 4=k -/
def W_picking : DS := dSeq (dSet 2 (dLstM (dNil))) (dSeq (dSet 3 (dCall 2 C_coefficients (dCons (dVar 0) (dCons (dVar 1) (dNil))))) (dSeq (dFor (diRng1 (dCons (dCB cLen (dCons (dVar 3) (dNil))) (dNil))) (dgName 4) (dDrop (dMethL oApp (dVar 2) (dCons (dTup (dCons (dC (.str (PySem.Str.ofString "*"))) (dCons (dTup (dCons (dC (.str (PySem.Str.ofString "num"))) (dCons (dOp oIx (dVar 3) (dVar 4)) (dNil)))) (dCons (dTup (dCons (dC (.str (PySem.Str.ofString "power"))) (dCons (dTup (dCons (dC (.str (PySem.Str.ofString "name"))) (dCons (dC (.str (PySem.Str.ofString "x"))) (dNil)))) (dCons (dVar 4) (dNil))))) (dNil))))) (dNil))))) (dFrz 2 (dRet (dCall 1 C_balanced (dCons (dVar 2) (dNil)))))))
/- _law_entries: slots 0=_law_state_here 1=_law_p 2=_law_entries_here 3=_law_k -/
def W__law_entries : DS := dSeq (dSet 2 (dLstM (dNil))) (dSeq (dFor (diRng1 (dCons (dCB cMin2 (dCons (dVar 1) (dCons (dOp oAdd (dC (.int 1)) (dCall 2 C_draw (dCons (dVar 0) (dCons (dOp oIx (dLst (dCons (dC (.int 4)) (dCons (dC (.int 32)) (dNil)))) (dCall 2 C_draw (dCons (dVar 0) (dCons (dC (.int 2)) (dNil))))) (dNil))))) (dNil)))) (dNil))) (dgName 3) (dDrop (dMethL oApp (dVar 2) (dCons (dOp oIx (dLst (dCons (dCall 2 C_draw (dCons (dVar 0) (dCons (dVar 1) (dNil)))) (dCons (dC (.int 0)) (dCons (dOp oSub (dVar 1) (dC (.int 1))) (dCons (dCall 2 C_draw (dCons (dVar 0) (dCons (dC (.int 2)) (dNil)))) (dNil)))))) (dCall 2 C_draw (dCons (dVar 0) (dCons (dC (.int 4)) (dNil))))) (dNil))))) (dRet (dVar 2)))
/- _law_at: slots 0=_law_numbers 1=_law_x 2=_law_p 3=_law_total 4=_law_k -/
def W__law_at : DS := dSeq (dSet 3 (dC (.int 0))) (dSeq (dFor (diRng1 (dCons (dCB cLen (dCons (dVar 0) (dNil))) (dNil))) (dgName 4) (dSet 3 (dOp oMod (dCB cInt (dCons (dOp oAdd (dOp oMul (dVar 3) (dVar 1)) (dOp oIx (dVar 0) (dOp oSub (dOp oSub (dCB cLen (dCons (dVar 0) (dNil))) (dC (.int 1))) (dVar 4)))) (dNil))) (dVar 2)))) (dRet (dVar 3)))
/- _law_sum: slots 0=_law_numbers 1=_law_first 2=_law_many 3=_law_half -/
def W__law_sum (c0 : DC) : DS := dSeq (dIf (dB (dOp oEq (dVar 2) (dC (.int 1)))) (dRet (dTup (dCons (dC (.str (PySem.Str.ofString "*"))) (dCons (dTup (dCons (dC (.str (PySem.Str.ofString "num"))) (dCons (dOp oIx (dVar 0) (dVar 1)) (dNil)))) (dCons (dTup (dCons (dC (.str (PySem.Str.ofString "power"))) (dCons (dTup (dCons (dC (.str (PySem.Str.ofString "name"))) (dCons (dC (.str (PySem.Str.ofString "x"))) (dNil)))) (dCons (dVar 1) (dNil))))) (dNil)))))) (dNext)) (dSeq (dSet 3 (dOp oDiv (dVar 2) (dC (.int 2)))) (dSeq (dIf (dB (dOp oLt (dOp oMul (dC (.int 2)) (dVar 3)) (dVar 2))) (dSet 3 (dOp oAdd (dVar 3) (dC (.int 1)))) (dNext)) (dRet (dTup (dCons (dC (.str (PySem.Str.ofString "+"))) (dCons (dCall 3 c0 (dCons (dVar 0) (dCons (dVar 1) (dCons (dVar 3) (dNil))))) (dCons (dCall 3 c0 (dCons (dVar 0) (dCons (dOp oAdd (dVar 1) (dVar 3)) (dCons (dOp oSub (dVar 2) (dVar 3)) (dNil))))) (dNil))))))))
/- law: slots 0=_law_script 1=_law_state_here 2=_law_p 3=_law_entries_here 4=_law_given 5=_law_numbers 6=_law_number 7=_law_k -/
def W_law : DS := dSeq (dSet 1 (dCall 1 C_state (dCons (dVar 0) (dNil)))) (dSeq (dSet 2 (dOp oIx (dLst (dCons (dC (.int 2)) (dCons (dC (.int 3)) (dCons (dC (.int 5)) (dCons (dC (.int 7)) (dCons (dC (.int 31)) (dCons (dC (.int 37)) (dCons (dC (.int 97)) (dCons (dC (.int 65537)) (dCons (dC (.int 2147483647)) (dNil))))))))))) (dCall 2 C_draw (dCons (dVar 1) (dCons (dC (.int 9)) (dNil)))))) (dSeq (dSet 3 (dCall 2 C__law_entries (dCons (dVar 1) (dCons (dVar 2) (dNil))))) (dSeq (dSet 4 (dCB cList (dCons (dVar 3) (dNil)))) (dSeq (dSet 5 (dCall 2 C_coefficients (dCons (dVar 4) (dCons (dVar 2) (dNil))))) (dSeq (dIf (dOr (dNot (dB (dCB cIsi (dCons (dVar 5) (dCons (dC (.ty "list")) (dNil)))))) (dOr (dB (dOp oNe (dCB cLen (dCons (dVar 5) (dNil))) (dCB cLen (dCons (dVar 3) (dNil))))) (dB (dOp oNe (dVar 4) (dVar 3))))) (dRet (dC (.bl false))) (dNext)) (dSeq (dFor (diList (dVar 5)) (dgName 6) (dIf (dOr (dNot (dB (dCB cIsi (dCons (dVar 6) (dCons (dC (.ty "int")) (dNil)))))) (dOr (dB (dCB cIsi (dCons (dVar 6) (dCons (dC (.ty "bool")) (dNil))))) (dOr (dB (dOp oLt (dVar 6) (dC (.int 0)))) (dB (dOp oGe (dVar 6) (dVar 2)))))) (dRet (dC (.bl false))) (dNext))) (dSeq (dFor (diRng1 (dCons (dCB cLen (dCons (dVar 3) (dNil))) (dNil))) (dgName 7) (dIf (dB (dOp oNe (dCall 3 C__law_at (dCons (dVar 5) (dCons (dVar 7) (dCons (dVar 2) (dNil))))) (dOp oIx (dVar 3) (dVar 7)))) (dRet (dC (.bl false))) (dNext))) (dRet (dAndV (dOp oEqS (dCB cRepr2 (dCons (dCall 2 C_picking (dCons (dVar 4) (dCons (dVar 2) (dNil)))) (dNil))) (dCB cRepr2 (dCons (dCall 3 C__law_sum (dCons (dVar 5) (dCons (dC (.int 0)) (dCons (dCB cLen (dCons (dVar 5) (dNil))) (dNil))))) (dNil)))) (dOp oEq (dVar 4) (dVar 3)))))))))))
theorem lin_len {k p : Int} : ∀ (vs : List Int) (a : Int), (lin k p a vs).length = vs.length + 1
  | [], _ => rfl
  | v :: r, a => by
    show (lin k p v r).length + 1 = (r.length + 1) + 1
    rw [lin_len r v]
theorem lin_ev {k p x : Int} : ∀ (vs : List Int) (a : Int), Cg p (ev (lin k p a vs) x) (a + x * ev vs x - k * ev vs x)
  | [], a => .of_eq (by
    show a + x * 0 = a + x * 0 - k * 0
    omega)
  | v :: r, a => by
    have ih := lin_ev (k := k) (p := p) (x := x) r v
    show Cg p ((a - k * v) % p + x * ev (lin k p v r) x) (a + x * (v + x * ev r x) - k * (v + x * ev r x))
    refine (Cg.add .mod (Cg.mul .refl ih)).trans (.of_eq ?_)
    rw [Int.mul_sub, Int.mul_add, Int.mul_add, Int.mul_left_comm x k]
    omega
theorem lin_in {k p : Int} (hp : 2 ≤ p) : ∀ (vs : List Int) (a : Int), InP p vs → (0 ≤ a ∧ a < p) → InP p (lin k p a vs)
  | [], a, _, ha => fun x hx => by rw [List.mem_singleton.mp hx]; exact ha
  | v :: r, a, h, ha => fun x hx => by
    rcases List.mem_cons.mp hx with rfl | hx
    · exact mod_in hp
    · exact lin_in hp r v (fun y hy => h y (List.mem_cons_of_mem _ hy)) (h v List.mem_cons_self) x hx
theorem lin_at {k p : Int} : ∀ (vs : List Int) (a : Int) (i : Nat), (lin k p a vs)[i]? = if i < vs.length then some (((a :: vs).getD i 0 - k * vs.getD i 0) % p) else (a :: vs)[i]?
  | [], a, i => by
    rw [if_neg (show ¬ i < ([] : List Int).length from Nat.not_lt_zero _)]
    rfl
  | v :: r, a, 0 => by
    rw [if_pos (by rw [List.length_cons]; omega)]
    rfl
  | v :: r, a, i + 1 => by
    show (lin k p v r)[i]? = _
    rw [lin_at r v i]
    simp only [List.length_cons, Nat.add_lt_add_iff_right, List.getD_cons_succ, List.getElem?_cons_succ]
theorem cutTx {xs : List D} {k : Nat} (h : k ≤ xs.length) : cutD xs none (some (k : Nat)) = xs.take k := by
  unfold cutD
  rw [HT.sIx_none, HT.sIx_nat, List.drop_zero, Nat.min_eq_left h, Nat.sub_zero]
theorem cutRx {xs : List D} {k : Nat} (h : k ≤ xs.length) : cutD xs (some (k : Nat)) none = xs.drop k := by
  unfold cutD
  rw [HT.sIx_none, HT.sIx_nat, Nat.min_eq_left h, List.take_of_length_le (by rw [List.length_drop]; omega)]
theorem r0_balanced : ∀ ds m Φ Ψ, ¬ R_balanced 0 ds m Φ Ψ := by
  rintro ds m Φ Ψ ⟨xs, _, h1, h2, _⟩
  have : (2 : Nat) ^ 0 = 1 := rfl
  omega
theorem r0__law_sum : ∀ ds m Φ Ψ, ¬ R__law_sum 0 ds m Φ Ψ := by
  rintro ds m Φ Ψ ⟨cs, a, b, _, h1, h2, _⟩
  have : (2 : Nat) ^ 0 = 1 := rfl
  omega
theorem rd_balanced (n : Nat) : ∀ ds m Φ Ψ, ds.length = 1 → R_balanced (n + 1) ds m Φ Ψ → W_balanced (R_balanced n) { nx := fun _ m' => Φ .non m', rt := Φ } (fun _ => Ψ) (ds.map some ++ List.replicate (2 - ds.length) none) m := by
  intro ds m Φ Ψ _ h
  obtain ⟨xs, rfl, h1, h2, h3, q⟩ := h
  rw [Nat.pow_succ] at h2
  change W_balanced _ _ _ [some (.lst xs), none] m
  unfold W_balanced
  walk_at "stp"
  unfold balF at q
  by_cases e : xs.length = 1
  · rw [if_pos e] at q
    rw [if_pos (by omega)]
    refine ⟨xs.getD 0 .non, atI_nat (j := 0) (by rw [List.getD_eq_getElem?_getD, List.getElem?_eq_getElem (by omega)]; rfl), q⟩
  · rw [if_neg e] at q
    rw [if_neg (by omega)]
    subst h1
    refine dSeq_k fun k1 h1 => ?_
    walk_at "dx"
    rw [show (((xs.length : Nat) : Int) + 1) / 2 = (((xs.length + 1) / 2 : Nat) : Int) by omega]
    obtain ⟨t, ht⟩ : ∃ t, 2 ^ n = 2 * t := by
      cases n with
      | zero =>
        have : (2 : Nat) ^ 0 = 1 := rfl
        omega
      | succ n => exact ⟨2 ^ n, by rw [Nat.pow_succ]; omega⟩
    obtain ⟨hf, hhf⟩ : ∃ hf, hf = (xs.length + 1) / 2 := ⟨_, rfl⟩
    rw [← hhf] at q ⊢
    subst h1
    walk_at "dx"
    rw [cutTx (by omega), cutRx (by omega)]
    refine ⟨by decide, xs.take hf, rfl, by rw [List.length_take]; omega, by rw [List.length_take]; omega, by rw [List.length_take]; omega, ?_⟩
    refine ⟨xs.drop hf, rfl, by rw [List.length_drop]; omega, by rw [List.length_drop]; omega, by rw [List.length_drop]; omega, ?_⟩
    exact ⟨by decide, q⟩
theorem rowF_len {cs : List Int} : (rowF cs).length = cs.length := by unfold rowF; rw [List.length_map, List.length_range]
theorem rd__law_sum (n : Nat) : ∀ ds m Φ Ψ, ds.length = 3 → R__law_sum (n + 1) ds m Φ Ψ → W__law_sum (R__law_sum n) { nx := fun _ m' => Φ .non m', rt := Φ } (fun _ => Ψ) (ds.map some ++ List.replicate (4 - ds.length) none) m := by
  intro ds m Φ Ψ _ h
  obtain ⟨cs, a, b, rfl, h1, h2, h3, h4, q⟩ := h
  rw [Nat.pow_succ] at h2
  have rl := rowF_len (cs := cs)
  have sl : (((rowF cs).drop a).take b).length = b := by rw [List.length_take, List.length_drop]; omega
  change W__law_sum _ _ _ [some (.lst (cs.map D.int)), some (.int (a : Nat)), some (.int (b : Nat)), none] m
  unfold W__law_sum
  walk_at "stp"
  unfold balF at q
  rw [sl] at q
  by_cases e : b = 1
  · rw [if_pos e] at q
    rw [if_pos (by omega)]
    refine ⟨_, atI_gi (by omega) (by omega), ?_⟩
    have eg : (((rowF cs).drop a).take b).getD 0 .non = starD (Dl.gi cs (a : Nat)) a := by
      rw [List.getD_eq_getElem?_getD, List.getElem?_take_of_lt (by omega), List.getElem?_drop, Nat.add_zero]
      unfold rowF
      rw [List.getElem?_map, List.getElem?_range (by omega)]
      rfl
    rw [eg] at q
    exact ⟨by decide, by decide, by decide, by decide, q⟩
  · rw [if_neg e] at q
    rw [if_neg (by omega)]
    obtain ⟨t, ht⟩ : ∃ t, 2 ^ n = 2 * t := by
      cases n with
      | zero =>
        have : (2 : Nat) ^ 0 = 1 := rfl
        omega
      | succ n => exact ⟨2 ^ n, by rw [Nat.pow_succ]; omega⟩
    obtain ⟨hf, hhf⟩ : ∃ hf, hf = (b + 1) / 2 := ⟨_, rfl⟩
    rw [← hhf] at q
    have go : ∀ ρ', ρ' = [some (D.lst (cs.map D.int)), some (D.int (a : Nat)), some (D.int (b : Nat)), some (D.int (hf : Nat))] → dRet (dTup (dCons (dC (.str (PySem.Str.ofString "+"))) (dCons (dCall 3 (R__law_sum n) (dCons (dVar 0) (dCons (dVar 1) (dCons (dVar 3) (dNil))))) (dCons (dCall 3 (R__law_sum n) (dCons (dVar 0) (dCons (dOp oAdd (dVar 1) (dVar 3)) (dCons (dOp oSub (dVar 2) (dVar 3)) (dNil))))) (dNil))))) { nx := fun _ m' => Φ .non m', rt := Φ } (fun _ => Ψ) ρ' m := by
      rintro ρ' rfl
      walk_at "dx"
      refine ⟨cs, a, hf, rfl, by omega, by omega, by omega, h4, ?_⟩
      rw [show ((a : Nat) : Int) + (hf : Nat) = ((a + hf : Nat) : Int) by omega, show ((b : Nat) : Int) - (hf : Nat) = ((b - hf : Nat) : Int) by omega]
      refine ⟨cs, a + hf, b - hf, rfl, by omega, by omega, by omega, h4, ?_⟩
      refine ⟨by decide, ?_⟩
      rw [List.take_take, Nat.min_eq_left (by omega), List.drop_take, List.drop_drop] at q
      exact q
    subst h1
    refine dSeq_k fun k1 h1 => ?_
    walk_at "dx"
    refine ⟨by decide, ?_⟩
    subst h1
    refine dSeq_k fun k1 h1 => ?_
    walk_at "dx"
    refine ⟨mulL (by decide) (by decide), ?_⟩
    by_cases e2 : 2 * (((b : Nat) : Int) / 2) < b
    · rw [if_pos e2, show ((b : Nat) : Int) / 2 + 1 = (hf : Nat) by omega]
      subst h1
      exact go _ rfl
    · rw [if_neg e2, show ((b : Nat) : Int) / 2 = (hf : Nat) by omega]
      subst h1
      exact go _ rfl
theorem rd_times_linear : ∀ ds m Φ Ψ, ds.length = 3 → C_times_linear ds m Φ Ψ → W_times_linear { nx := fun _ m' => retQ m Φ .non m', rt := retQ m Φ } (fun _ => retX m Ψ) (ds.map some ++ List.replicate (5 - ds.length) none) m := by
  intro ds m Φ Ψ _ h
  obtain ⟨vs, k, p, rfl, hp, vl, k0, k1', q⟩ := h
  have hp1 := hp.1
  have hp2 := hp.2
  change W_times_linear _ _ [some (.lst (vs.map D.int)), some (.int k), some (.int p), none, none] m
  unfold W_times_linear
  refine dSeq_k fun k1 h1 => ?_
  walk_at "dx"
  refine ⟨by decide, ?_⟩
  unfold oAddM
  refine ⟨by simp only [List.length_map, List.length_cons, List.length_nil]; show _ ≤ 16777216; omega, ?_⟩
  subst h1
  refine dSeq_k fun k1 h1 => ?_
  walk_at "dx"
  refine ⟨⟨by omega, by omega⟩, ?_⟩
  rw [rngD0, Int.toNat_natCast]
  have ll := lin_len (k := k) (p := p) vs 0
  refine forW_nat (fun i ρ m' => ∃ o, ρ = [some (.lst (vs.map D.int)), some (.int k), some (.int p), some (.hnd m.M.length), o] ∧ m' = m.push (.lst (((lin k p 0 vs).take i ++ (0 :: vs).drop i).map D.int))) ?_ ?_ ⟨_, rfl, rfl⟩
  · rintro i kk hi hk ρ m' ⟨o, rfl, rfl⟩
    have lL : ((lin k p 0 vs).take i ++ (0 :: vs).drop i).length = vs.length + 1 := by
      rw [List.length_append, List.length_take, List.length_drop, ll, List.length_cons]
      omega
    obtain ⟨L, hL⟩ : ∃ L, L = (lin k p 0 vs).take i ++ (0 :: vs).drop i := ⟨_, rfl⟩
    rw [← hL] at lL ⊢
    walk_at "dx"
    refine ⟨_, atI_gi (xs := L) (by omega) (by omega), _, atI_gi (by omega) (by omega), ?_⟩
    walk_at "dx"
    refine ⟨mulL (by omega) (by omega), by omega, i, ixN_of (by omega) (by omega), ?_⟩
    rw [← List.map_set]
    refine hk _ _ ⟨_, rfl, ?_⟩
    refine congrArg (fun x : List Int => MM.mk (m.M ++ [MO.lst (x.map D.int)]) m.s) ?_
    refine List.ext_getElem? fun j => ?_
    have eL : ∀ j, L[j]? = if j < i then (lin k p 0 vs)[j]? else (0 :: vs)[j]? := fun j => by
      rw [hL]
      split
      · rename_i hj
        rw [List.getElem?_append_left (by rw [List.length_take]; omega), List.getElem?_take_of_lt hj]
      · rename_i hj
        rw [List.getElem?_append_right (by rw [List.length_take]; omega), List.length_take, Nat.min_eq_left (by omega), List.getElem?_drop, Nat.add_sub_cancel' (by omega)]
    have eR : ∀ j, ((lin k p 0 vs).take (i + 1) ++ (0 :: vs).drop (i + 1))[j]? = if j < i + 1 then (lin k p 0 vs)[j]? else (0 :: vs)[j]? := fun j => by
      split
      · rename_i hj
        rw [List.getElem?_append_left (by rw [List.length_take]; omega), List.getElem?_take_of_lt hj]
      · rename_i hj
        rw [List.getElem?_append_right (by rw [List.length_take]; omega), List.length_take, Nat.min_eq_left (by omega), List.getElem?_drop, Nat.add_sub_cancel' (by omega)]
    rw [eR]
    by_cases ej : j = i
    · subst ej
      rw [List.getElem?_set_self (by omega), if_pos (by omega), lin_at, if_pos hi]
      have e1 : gi L (j : Nat) = (0 :: vs).getD j 0 := by
        rw [gi_nat, List.getD_eq_getElem?_getD, eL, if_neg (by omega), List.getD_eq_getElem?_getD]
      rw [e1, gi_nat]
    · rw [List.getElem?_set_ne (fun h => ej h.symm), eL]
      by_cases hj : j < i
      · rw [if_pos hj, if_pos (by omega)]
      · rw [if_neg hj, if_neg (by omega)]
  · rintro ρ m' ⟨o, rfl, rfl⟩
    subst h1
    walk_at "dx"
    rw [show (lin k p 0 vs).take vs.length ++ (0 :: vs).drop vs.length = lin k p 0 vs by
      refine List.ext_getElem? fun j => ?_
      by_cases hj : j < vs.length
      · rw [List.getElem?_append_left (by rw [List.length_take]; omega), List.getElem?_take_of_lt hj]
      · rw [List.getElem?_append_right (by rw [List.length_take]; omega), List.length_take, Nat.min_eq_left (by omega), List.getElem?_drop, Nat.add_sub_cancel' (by omega), lin_at, if_neg hj]]
    exact retQ_lst (clAll_ints _) q
theorem parts_ev {p : Int} (hp : 2 ≤ p) (k : Nat) (x : Int) : ∀ n : Nat, Cg p (ev (partsF p k n).1 x) (above k x n) ∧ Cg p (partsF p k n).2 (above k (k : Nat) n) ∧ InP p (partsF p k n).1 ∧ (partsF p k n).1.length = 1 + (if k < n then n - 1 else n)
  | 0 => by
    refine ⟨.of_eq ?_, .of_eq rfl, fun y hy => ?_, ?_⟩
    · show 1 + x * 0 = 1
      omega
    · rw [List.mem_singleton.mp hy]
      omega
    · rw [if_neg (Nat.not_lt_zero _)]
      rfl
  | j + 1 => by
    obtain ⟨h1, h2, h3, h4⟩ := parts_ev hp k x j
    unfold partsF above
    by_cases e : j = k
    · rw [if_pos e, if_pos e, if_pos e]
      refine ⟨h1, h2, h3, ?_⟩
      rw [h4, if_neg (by omega), if_pos (by omega)]
      omega
    · rw [if_neg e, if_neg e, if_neg e]
      refine ⟨?_, (Cg.mod).trans (Cg.mul h2 .refl), lin_in hp _ _ h3 ⟨by omega, by omega⟩, ?_⟩
      · refine (lin_ev _ _).trans ((Cg.of_eq ?_).trans (Cg.mul h1 .refl))
        rw [Int.mul_sub, Int.mul_comm x, Int.mul_comm ((j : Nat) : Int)]
        omega
      · show (lin _ p 0 _).length = _
        rw [lin_len, h4]
        split <;> split <;> omega
theorem acc_ev {p c x : Int} : ∀ (f P : List Int), f.length = P.length → Cg p (ev (accF f P c p) x) (ev f x + c * ev P x)
  | [], [], _ => .of_eq (by show (0 : Int) = 0 + c * 0; omega)
  | a :: f, b :: P, h => by
    have ih := acc_ev (p := p) (c := c) (x := x) f P (by rw [List.length_cons, List.length_cons] at h; omega)
    have e : accF (a :: f) (b :: P) c p = ((a + c * b) % p) :: accF f P c p := by
      unfold accF
      rw [List.length_cons, List.range_succ_eq_map, List.map_cons, List.map_map]
      refine (fun {a : Int} {x y : List Int} (h : x = y) => (by rw [h] : a :: x = a :: y)) (List.map_congr_left fun i _ => ?_)
      show (gi (a :: f) ((i + 1 : Nat) : Int) + c * gi (b :: P) ((i + 1 : Nat) : Int)) % p = _
      rw [gi_nat, gi_nat, gi_nat, gi_nat, List.getD_cons_succ, List.getD_cons_succ]
    rw [e]
    show Cg p ((a + c * b) % p + x * ev (accF f P c p) x) ((a + x * ev f x) + c * (b + x * ev P x))
    refine (Cg.add .mod (Cg.mul .refl ih)).trans (.of_eq ?_)
    rw [Int.mul_add, Int.mul_add, Int.mul_left_comm x c]
    omega
theorem acc_len {f P : List Int} {c p : Int} : (accF f P c p).length = f.length := by unfold accF; rw [List.length_map, List.length_range]
theorem coef_len {es : List Int} {p : Int} : ∀ n, (coefN es p n).length = es.length
  | 0 => List.length_replicate
  | n + 1 => acc_len.trans (coef_len n)
theorem acc_in {f P : List Int} {c p : Int} (hp : 2 ≤ p) : InP p (accF f P c p) := fun x hx => by
  obtain ⟨i, _, rfl⟩ := List.mem_map.mp hx
  exact mod_in hp
theorem coef_in {es : List Int} {p : Int} (hp : 2 ≤ p) : ∀ n, InP p (coefN es p n)
  | 0 => fun x hx => by rw [List.eq_of_mem_replicate hx]; omega
  | n + 1 => acc_in hp
theorem ev_zero {x : Int} : ∀ n, ev (List.replicate n 0) x = 0
  | 0 => rfl
  | n + 1 => by
    show 0 + x * ev (List.replicate n 0) x = 0
    rw [ev_zero n]
    omega
theorem coef_ev {es : List Int} {p : Int} (K : EsOK es p) {j : Nat} (hj : j < es.length) : ∀ n, n ≤ es.length → Cg p (ev (coefN es p n) (j : Nat)) (if j < n then Dl.gi es (j : Nat) else 0)
  | 0, _ => .of_eq (ev_zero _)
  | n + 1, hn => by
    have hp := K.pm.1
    have lp := K.lp
    have ih := coef_ev K hj n (by omega)
    obtain ⟨h1, h2, h3, h4⟩ := parts_ev hp n (j : Nat) es.length
    rw [if_pos (by omega)] at h4
    refine (acc_ev _ _ (by rw [coef_len, h4]; omega)).trans ?_
    by_cases e : j = n
    · subst e
      rw [if_neg (by omega)] at ih
      rw [if_pos (by omega)]
      have nz : ¬ Cg p (partsF p j es.length).2 0 := fun z => above_ne K.pr es.length lp (by omega) (h2.symm.trans z)
      have iv := fermat_inv K.pr nz
      refine (Cg.add ih (Cg.mul .mod (h1.trans h2.symm))).trans ?_
      refine (Cg.of_eq (Int.zero_add _)).trans ?_
      refine (Cg.of_eq (Int.mul_assoc _ _ _)).trans ?_
      refine (Cg.mul .refl ((Cg.mul .mod .refl).trans iv)).trans (.of_eq (Int.mul_one _))
    · have z := above_zero (k := n) (i := j) e es.length hj
      rw [z] at h1
      refine (Cg.add ih (Cg.mul .refl h1)).trans (.of_eq ?_)
      rw [Int.mul_zero, Int.add_zero]
      by_cases h : j < n
      · rw [if_pos h, if_pos (by omega)]
      · rw [if_neg h, if_neg (by omega)]
theorem mulR' {i j : Int} (h0 : -1000 ≤ j) (h1 : j ≤ 1000) : MulC i j := .inr (.inl ⟨by omega, by omega⟩)
theorem mix_at {A B : List Int} {i : Nat} (h : A.length = B.length) : ∀ j, (A.take i ++ B.drop i)[j]? = if j < i then A[j]? else B[j]? := fun j => by
  split
  · rename_i hj
    by_cases ha : j < A.length
    · rw [List.getElem?_append_left (by rw [List.length_take]; omega), List.getElem?_take_of_lt hj]
    · rw [List.getElem?_eq_none (by rw [List.length_append, List.length_take, List.length_drop]; omega), List.getElem?_eq_none (by omega)]
  · rename_i hj
    by_cases hi : i ≤ A.length
    · rw [List.getElem?_append_right (by rw [List.length_take]; omega), List.length_take, Nat.min_eq_left hi, List.getElem?_drop, Nat.add_sub_cancel' (by omega)]
    · rw [List.getElem?_eq_none (by rw [List.length_append, List.length_take, List.length_drop]; omega), List.getElem?_eq_none (by omega)]
theorem mix_set {A B : List Int} {i : Nat} (h : A.length = B.length) (hi : i < A.length) : (A.take i ++ B.drop i).set i (Dl.gi A (i : Nat)) = A.take (i + 1) ++ B.drop (i + 1) := by
  refine List.ext_getElem? fun j => ?_
  rw [mix_at h]
  by_cases e : j = i
  · subst e
    rw [List.getElem?_set_self (by rw [List.length_append, List.length_take, List.length_drop]; omega), if_pos (by omega), gi_nat, List.getD_eq_getElem?_getD, List.getElem?_eq_getElem hi]
    rfl
  · rw [List.getElem?_set_ne (fun h => e h.symm), mix_at h]
    by_cases hj : j < i
    · rw [if_pos hj, if_pos (by omega)]
    · rw [if_neg hj, if_neg (by omega)]
theorem mix_gi {A B : List Int} {i : Nat} (h : A.length = B.length) : Dl.gi (A.take i ++ B.drop i) (i : Nat) = Dl.gi B (i : Nat) := by
  rw [gi_nat, gi_nat, List.getD_eq_getElem?_getD, List.getD_eq_getElem?_getD, mix_at h, if_neg (Nat.lt_irrefl _)]
theorem mix_all {A B : List Int} (h : A.length = B.length) : A.take A.length ++ B.drop A.length = A := by
  rw [List.take_length, List.drop_of_length_le (by omega), List.append_nil]
theorem acc_gi {f P : List Int} {c p : Int} {i : Nat} (hi : i < f.length) : Dl.gi (accF f P c p) (i : Nat) = (Dl.gi f (i : Nat) + c * Dl.gi P (i : Nat)) % p := by
  unfold accF
  rw [gi_nat, List.getD_eq_getElem?_getD, List.getElem?_map, List.getElem?_range hi]
  rfl
theorem rep_zero : ∀ n : Nat, (List.replicate n [D.int 0]).flatten = (List.replicate n (0 : Int)).map D.int
  | 0 => rfl
  | n + 1 => by
    show D.int 0 :: (List.replicate n [D.int 0]).flatten = D.int 0 :: (List.replicate n (0 : Int)).map D.int
    rw [rep_zero n]
theorem rd_coefficients : ∀ ds m Φ Ψ, ds.length = 2 → C_coefficients ds m Φ Ψ → W_coefficients { nx := fun _ m' => retQ m Φ .non m', rt := retQ m Φ } (fun _ => retX m Ψ) (ds.map some ++ List.replicate (10 - ds.length) none) m := by
  intro ds m Φ Ψ _ h
  obtain ⟨es, p, rfl, K, q⟩ := h
  have hp := K.pm
  have hp1 := hp.1
  have hp2 := hp.2
  have l32 := K.l32
  have lp := K.lp
  change W_coefficients _ _ [some (.lst (es.map D.int)), some (.int p), none, none, none, none, none, none, none, none] m
  unfold W_coefficients
  walk_at "stp"
  walk_at "nxt"
  unfold oRepM
  refine ⟨by decide, by show 1 * _ ≤ 16777216; rw [Int.toNat_natCast]; omega, by omega, by omega, ?_⟩
  rw [Int.toNat_natCast, rep_zero]
  obtain ⟨n, hn⟩ : ∃ n, n = es.length := ⟨_, rfl⟩
  rw [← hn]
  walk_at "nxt"
  refine ⟨⟨by omega, by omega⟩, ?_⟩
  rw [rngD0, Int.toNat_natCast]
  refine forW_nat (fun k ρ m' => ∃ o4 o5 o6 o7 o8 o9, ρ = [some (.lst (es.map D.int)), some (.int p), some (.int (n : Nat)), some (.hnd m.M.length), o4, o5, o6, o7, o8, o9] ∧ m' = m.push (.lst ((coefN es p k).map D.int))) ?_ ?_ ⟨_, _, _, _, _, _, rfl, by rw [hn]; rfl⟩
  · rintro k kk hk hkk ρ m' ⟨o4, o5, o6, o7, o8, o9, rfl, rfl⟩
    clear h1
    refine dSeq_k fun k1 h1 => ?_
    walk_at "dx"
    refine ⟨by decide, ?_⟩
    walk_at "nxt"
    walk_at "nxt"
    refine ⟨⟨by omega, by omega⟩, ?_⟩
    rw [rngD0, Int.toNat_natCast]
    refine forW_nat (fun j ρ m' => ∃ o7, ρ = [some (.lst (es.map D.int)), some (.int p), some (.int (n : Nat)), some (.hnd m.M.length), some (.int (k : Nat)), some (.lst ((partsF p k j).1.map D.int)), some (.int (partsF p k j).2), o7, o8, o9] ∧ m' = m.push (.lst ((coefN es p k).map D.int))) ?_ ?_ ⟨_, rfl, rfl⟩
    · rintro j kj hj hkj ρ m' ⟨o7, rfl, rfl⟩
      obtain ⟨h1', h2, h3, h4⟩ := parts_ev hp1 k (j : Nat) j
      walk_at "dx"
      by_cases e : j = k
      · rw [if_neg (by omega)]
        refine hkj _ _ ⟨some (.int (j : Nat)), ?_, rfl⟩
        rw [show partsF p k (j + 1) = partsF p k j by show (if j = k then _ else _) = _; rw [if_pos e]]
      · rw [if_pos (by omega)]
        refine ⟨(partsF p k j).1, (j : Nat), p, rfl, hp, by rw [h4]; split <;> omega, by omega, by omega, ?_⟩
        walk_at "dx"
        refine ⟨mulR' (by omega) (by omega), by omega, hkj _ _ ⟨some (.int (j : Nat)), ?_, rfl⟩⟩
        rw [show partsF p k (j + 1) = (lin (j : Nat) p 0 (partsF p k j).1, (partsF p k j).2 * ((k : Nat) - (j : Nat)) % p) by show (if j = k then _ else _) = _; rw [if_neg e]]
    · rintro ρ m' ⟨o7, rfl, rfl⟩
      obtain ⟨P1, P2, P3, P4⟩ := parts_ev hp1 k (k : Nat) n
      rw [if_pos (by omega)] at P4
      have nz : ¬ Cg p (partsF p k n).2 0 := fun z => above_ne K.pr n (by omega) (by omega) (P2.symm.trans z)
      have cl := coef_len (es := es) (p := p) k
      have cin := coef_in (es := es) hp1 k
      obtain ⟨F, hF⟩ : ∃ F, F = coefN es p k := ⟨_, rfl⟩
      have eF : coefN es p (k + 1) = accF F (partsF p k n).1 (facF es p k) p := by rw [hF, hn]; rfl
      have efc : facF es p k = Dl.gi es (k : Nat) * ((partsF p k n).2 ^ (p - 2).toNat % p) % p := by rw [hn]; rfl
      rw [← hF] at cl cin ⊢
      obtain ⟨⟨P, s⟩, hPs⟩ : ∃ Ps, Ps = partsF p k n := ⟨_, rfl⟩
      rw [← hPs] at P1 P2 P3 P4 nz eF efc ⊢
      try dsimp only at P1 P2 P3 P4 nz eF efc ⊢
      obtain ⟨fc, hfc⟩ : ∃ fc, fc = facF es p k := ⟨_, rfl⟩
      rw [← hfc] at eF efc
      subst h1
      (try dsimp only)
      refine dSeq_k fun k1 h1 => ?_
      walk_at "dx"
      have ek := K.ei.gN (i := k) (by omega)
      refine ⟨_, atI_gi (by omega) (by omega), s, p, rfl, hp, fun z => absurd (by unfold Cg; rw [z, Int.zero_emod]) nz, fun _ => ?_⟩
      walk_at "dx"
      have inv := mod_in hp1 (z := s ^ (p - 2).toNat)
      refine ⟨mulR (by omega) (by omega), by omega, ?_⟩
      rw [← efc]
      have fin : 0 ≤ fc ∧ fc < p := by rw [efc]; exact mod_in hp1
      subst h1
      walk_at "dx"
      refine ⟨⟨by omega, by omega⟩, ?_⟩
      rw [rngD0, Int.toNat_natCast]
      have la := acc_len (f := F) (P := P) (c := fc) (p := p)
      have ain := acc_in (f := F) (P := P) (c := fc) hp1
      obtain ⟨G, hG⟩ : ∃ G, G = accF F P fc p := ⟨_, rfl⟩
      refine forW_nat (fun i ρ m' => ∃ o9, ρ = [some (.lst (es.map D.int)), some (.int p), some (.int (n : Nat)), some (.hnd m.M.length), some (.int (k : Nat)), some (.lst (P.map D.int)), some (.int s), o7, some (.int fc), o9] ∧ m' = m.push (.lst ((G.take i ++ F.drop i).map D.int))) ?_ ?_ ⟨_, rfl, rfl⟩
      · rintro i ki hi hki ρ m' ⟨o9, rfl, rfl⟩
        have agi := acc_gi (f := F) (P := P) (c := fc) (p := p) (i := i) (by omega)
        rw [← hG] at agi la ain
        have mg := mix_gi (A := G) (B := F) (i := i) la
        have ms := mix_set (A := G) (B := F) (i := i) la (by omega)
        have ml : (G.take i ++ F.drop i).length = n := by rw [List.length_append, List.length_take, List.length_drop]; omega
        obtain ⟨L, hL⟩ : ∃ L, L = G.take i ++ F.drop i := ⟨_, rfl⟩
        rw [← hL] at mg ms ml ⊢
        have gP := P3.gN (i := i) (by omega)
        walk_at "dx"
        refine ⟨_, atI_gi (xs := L) (by omega) (by omega), _, atI_gi (xs := P) (by omega) (by omega), ?_⟩
        walk_at "dx"
        refine ⟨mulL (by omega) (by omega), by omega, i, ixN_of (by omega) (by omega), ?_⟩
        rw [← List.map_set, mg, ← agi, ms]
        exact hki _ _ ⟨_, rfl, rfl⟩
      · rintro ρ m' ⟨o9, rfl, rfl⟩
        rw [← hG] at la eF
        refine hkk _ _ ⟨_, _, _, _, _, _, rfl, ?_⟩
        rw [eF, show n = G.length by omega, mix_all la]
  · rintro ρ m' ⟨o4, o5, o6, o7, o8, o9, rfl, rfl⟩
    subst h1
    walk_at "dx"
    rw [show coefN es p n = coefF es p by rw [hn]; rfl]
    exact retQ_lst (clAll_ints _) q
theorem balF_cl {n0 : Nat} : ∀ (n : Nat) (xs : List D), (∀ d ∈ xs, clD n0 d = true) → clD n0 (balF n xs) = true
  | 0, _, _ => rfl
  | n + 1, xs, h => by
    unfold balF
    split
    · rename_i e
      rw [List.getD_eq_getElem?_getD, List.getElem?_eq_getElem (by omega)]
      exact h _ (List.getElem_mem _)
    · show (true && (clD n0 _ && (clD n0 _ && true))) = true
      rw [balF_cl n _ fun d hd => h d (List.mem_of_mem_take hd), balF_cl n _ fun d hd => h d (List.mem_of_mem_drop hd)]
      rfl
theorem rowF_cl {n0 : Nat} {cs : List Int} : ∀ d ∈ rowF cs, clD n0 d = true := fun d hd => by
  obtain ⟨k, _, rfl⟩ := List.mem_map.mp hd
  rfl
theorem rd_picking : ∀ ds m Φ Ψ, ds.length = 2 → C_picking ds m Φ Ψ → W_picking { nx := fun _ m' => retQ m Φ .non m', rt := retQ m Φ } (fun _ => retX m Ψ) (ds.map some ++ List.replicate (5 - ds.length) none) m := by
  intro ds m Φ Ψ _ h
  obtain ⟨es, p, rfl, K, q⟩ := h
  have l32 := K.l32
  have l1 := K.l1
  have cl := coef_len (es := es) (p := p) es.length
  change W_picking _ _ [some (.lst (es.map D.int)), some (.int p), none, none, none] m
  unfold W_picking
  walk_at "stp"
  refine ⟨by decide, ?_⟩
  walk_at "nxt"
  refine ⟨es, p, rfl, K, ?_⟩
  obtain ⟨F, hF⟩ : ∃ F, F = coefF es p := ⟨_, rfl⟩
  have cl : F.length = es.length := by rw [hF]; exact cl
  rw [← hF] at q ⊢
  have rl := rowF_len (cs := F)
  walk_at "nxt"
  refine ⟨⟨by omega, by omega⟩, ?_⟩
  rw [rngD0, Int.toNat_natCast]
  refine forW_nat (fun k ρ m' => ∃ o, ρ = [some (.lst (es.map D.int)), some (.int p), some (.hnd m.M.length), some (.lst (F.map D.int)), o] ∧ m' = m.push (.lst ((rowF F).take k))) ?_ ?_ ⟨_, rfl, rfl⟩
  · rintro k kk hk hkk ρ m' ⟨o, rfl, rfl⟩
    walk_at "dx"
    have tl : ((rowF F).take k).length = k := by rw [List.length_take]; omega
    refine ⟨_, atI_gi (by omega) (by omega), by decide, by decide, by decide, by decide, by rw [tl]; show _ < 16777216; omega, hkk _ _ ⟨_, rfl, ?_⟩⟩
    refine congrArg (fun x => MM.mk (m.M ++ [MO.lst x]) m.s) ?_
    rw [List.take_succ]
    unfold rowF
    rw [List.getElem?_map, List.getElem?_range hk]
    rfl
  · rintro ρ m' ⟨o, rfl, rfl⟩
    subst h1
    dsimp only
    rw [← rl, List.take_length]
    unfold dFrz
    walk_at "dx"
    refine ⟨rowF F, rfl, by omega, by rw [show (2 : Nat) ^ 8 = 256 from rfl]; omega, by omega, ?_⟩
    exact retQ_dead (L := [.dead]) (balF_cl _ _ rowF_cl) q
theorem rd__law_at : ∀ ds m Φ Ψ, ds.length = 3 → C__law_at ds m Φ Ψ → W__law_at { nx := fun _ m' => Φ .non m', rt := Φ } (fun _ => Ψ) (ds.map some ++ List.replicate (5 - ds.length) none) m := by
  intro ds m Φ Ψ _ h
  obtain ⟨cs, x, p, rfl, hp, cl, x0, x1, q⟩ := h
  have hp1 := hp.1
  have hp2 := hp.2
  change W__law_at _ _ [some (.lst (cs.map D.int)), some (.int x), some (.int p), none, none] m
  unfold W__law_at
  walk_at "stp"
  walk_at "nxt"
  refine ⟨⟨by omega, by omega⟩, ?_⟩
  rw [rngD0, Int.toNat_natCast]
  refine forW_nat (fun k ρ m' => ∃ o, ρ = [some (.lst (cs.map D.int)), some (.int x), some (.int p), some (.int (ev (cs.drop (cs.length - k)) x % p)), o] ∧ m' = m) ?_ ?_ ⟨_, by rw [Nat.sub_zero, List.drop_length]; show _ = [_, _, _, some (D.int (0 % p)), _]; rw [Int.zero_emod], rfl⟩
  · rintro k kk hk hkk ρ m' ⟨o, rfl, rfl⟩
    walk_at "dx"
    refine ⟨mulR (by omega) (by omega), ?_⟩
    rw [show ((cs.length : Nat) : Int) - 1 - (k : Nat) = ((cs.length - (k + 1) : Nat) : Int) by omega]
    refine ⟨_, atI_gi (by omega) (by omega), ?_⟩
    walk_at "dx"
    refine ⟨by omega, hkk _ _ ⟨some (.int (k : Nat)), ?_, rfl⟩⟩
    have e : cs.drop (cs.length - (k + 1)) = Dl.gi cs ((cs.length - (k + 1) : Nat) : Int) :: cs.drop (cs.length - k) := by
      rw [List.drop_eq_getElem_cons (by omega), gi_nat, List.getD_eq_getElem?_getD, List.getElem?_eq_getElem (by omega), show cs.length - (k + 1) + 1 = cs.length - k by omega]
      rfl
    rw [e]
    have c : Cg p (ev (cs.drop (cs.length - k)) x % p * x + Dl.gi cs ((cs.length - (k + 1) : Nat) : Int)) (Dl.gi cs ((cs.length - (k + 1) : Nat) : Int) + x * ev (cs.drop (cs.length - k)) x) := (Cg.add (Cg.mul .mod .refl) .refl).trans (.of_eq (by rw [Int.mul_comm x]; omega))
    unfold Cg at c
    rw [c]
    rfl
  · rintro ρ m' ⟨o, rfl, rfl⟩
    subst h1
    walk_at "dx"
    rw [Nat.sub_self, List.drop_zero]
    exact q
theorem rd__law_entries : ∀ ds m Φ Ψ, ds.length = 2 → C__law_entries ds m Φ Ψ → W__law_entries { nx := fun _ m' => retQ m Φ .non m', rt := retQ m Φ } (fun _ => retX m Ψ) (ds.map some ++ List.replicate (4 - ds.length) none) m := by
  intro ds m Φ Ψ _ h
  obtain ⟨p, rfl, hs, hp, q⟩ := h
  have hp1 := hp.1
  have hp2 := hp.2
  change W__law_entries _ _ [some (.st 0), some (.int p), none, none] m
  unfold W__law_entries
  walk_at "stp"
  refine ⟨by decide, ?_⟩
  walk_at "nxt"
  refine ⟨by decide, 2, rfl, hs, by decide, by decide, fun t t0 t1 => ?_⟩
  have key : ∀ M : Int, (M = 4 ∨ M = 32) → ∀ N : Int, (N = M) → C_draw [D.st 0, D.int N] { M := m.M ++ [MO.lst []], s := m.s } (fun y m2 => match D.int 1, y with
      | D.int i, D.int j => ((-2 ^ 62 ≤ if i + j < p then i + j else p) ∧ (if i + j < p then i + j else p) < 2 ^ 62) ∧
                        forW (dgName 3) (dDrop (dMethL oApp (dVar 2) (dCons (dOp oIx (dLst (dCons (dCall 2 C_draw (dCons (dVar 0) (dCons (dVar 1) dNil))) (dCons (dC (D.int 0)) (dCons (dOp oSub (dVar 1) (dC (D.int 1))) (dCons (dCall 2 C_draw (dCons (dVar 0) (dCons (dC (D.int 2)) dNil))) dNil))))) (dCall 2 C_draw (dCons (dVar 0) (dCons (dC (D.int 4)) dNil)))) dNil)))
                          { nx := k1, rt := retQ m Φ } (fun x => retX m Ψ) (rngD 0 (if i + j < p then i + j else p).toNat) [some (D.st 0), some (D.int p), some (D.hnd m.M.length), none] m2
      | _, _ => False) (retX m Ψ) := by
    rintro M hM N rfl
    refine ⟨N, rfl, hs, by omega, by omega, fun r r0 r1 => ?_⟩
    dsimp only
    obtain ⟨L, hL⟩ : ∃ L, L = if 1 + r < p then 1 + r else p := ⟨_, rfl⟩
    have hL2 : 1 ≤ L ∧ L ≤ 32 ∧ L ≤ p := by rw [hL]; split <;> omega
    rw [← hL]
    refine ⟨⟨by omega, by omega⟩, ?_⟩
    rw [rngD0]
    refine forW_nat (fun k ρ m' => ∃ (es : List Int) (o : Option D), es.length = k ∧ InP p es ∧ ρ = [some (.st 0), some (.int p), some (.hnd m.M.length), o] ∧ m' = m.push (.lst (es.map D.int))) ?_ ?_ ⟨[], _, rfl, fun x hx => (by cases hx), rfl, rfl⟩
    · rintro k kk hk hkk ρ m' ⟨es, o, el, ei, rfl, rfl⟩
      walk_at "dx"
      refine ⟨p, rfl, hs, by omega, by omega, fun a a0 a1 => ?_⟩
      refine ⟨2, rfl, hs, by decide, by decide, fun b b0 b1 => ?_⟩
      walk_at "dx"
      refine ⟨by decide, 4, rfl, hs, by decide, by decide, fun c c0 c1 => ?_⟩
      have fin : ∀ v : Int, 0 ≤ v → v < p → es.length < LIM ∧ kk [some (D.st 0), some (D.int p), some (D.hnd m.M.length), some (D.int (k : Nat))] ⟨m.M ++ [MO.lst (es.map D.int ++ [D.int v])], m.s⟩ := fun v v0 v1 => by
        refine ⟨by show _ < 16777216; omega, hkk _ _ ⟨es ++ [v], _, by rw [List.length_append, el]; rfl, fun x hx => ?_, rfl, by rw [List.map_append]; rfl⟩⟩
        rcases List.mem_append.mp hx with hx | hx
        · exact ei x hx
        · rw [List.mem_singleton.mp hx]; exact ⟨v0, v1⟩
      dsimp only
      have : c = 0 ∨ c = 1 ∨ c = 2 ∨ c = 3 := by omega
      rcases this with rfl | rfl | rfl | rfl
      · refine ⟨_, atI_nat (j := 0) rfl, ?_⟩
        walk_at "dx"
        exact fin a a0 a1
      · refine ⟨_, atI_nat (j := 1) rfl, ?_⟩
        walk_at "dx"
        exact fin 0 (by omega) (by omega)
      · refine ⟨_, atI_nat (j := 2) rfl, ?_⟩
        walk_at "dx"
        exact fin (p - 1) (by omega) (by omega)
      · refine ⟨_, atI_nat (j := 3) rfl, ?_⟩
        walk_at "dx"
        exact fin b b0 (by omega)
    · rintro ρ m' ⟨es, o, el, ei, rfl, rfl⟩
      subst h1
      walk_at "dx"
      exact retQ_lst (clAll_ints _) (q es ei (by omega) (by omega) (by omega))
  have : t = 0 ∨ t = 1 := by omega
  rcases this with rfl | rfl
  · exact ⟨_, atI_nat (j := 0) rfl, key 4 (.inl rfl) 4 rfl⟩
  · exact ⟨_, atI_nat (j := 1) rfl, key 32 (.inr rfl) 32 rfl⟩
theorem okr_up {n n' k k' : Nat} {d : D} (h : OkR n k d) (hn : n ≤ n') (hk : k ≤ k') : OkR n' k' d := ⟨okE_mono _ h.lay hn, h.shw, h.lvs, Nat.le_trans h.wgt hk⟩
theorem okr_mul {n : Nat} : OkR n 10 (.str (PySem.Str.ofString "*")) := .str (by decide +kernel) (by decide +kernel) (by decide +kernel)
theorem okr_plus {n : Nat} : OkR n 10 (.str (PySem.Str.ofString "+")) := .str (by decide +kernel) (by decide +kernel) (by decide +kernel)
theorem okr_num {n : Nat} : OkR n 10 (.str (PySem.Str.ofString "num")) := .str (by decide +kernel) (by decide +kernel) (by decide +kernel)
theorem okr_pow {n : Nat} : OkR n 10 (.str (PySem.Str.ofString "power")) := .str (by decide +kernel) (by decide +kernel) (by decide +kernel)
theorem okr_name {n : Nat} : OkR n 10 (.str (PySem.Str.ofString "name")) := .str (by decide +kernel) (by decide +kernel) (by decide +kernel)
theorem okr_x {n : Nat} : OkR n 10 (.str (PySem.Str.ofString "x")) := .str (by decide +kernel) (by decide +kernel) (by decide +kernel)
theorem okr_nx : OkR 1 45 (.tup [.str (PySem.Str.ofString "name"), .str (PySem.Str.ofString "x")]) := by
  refine OkR.tup (n := 0) (k := 10) (fun d hd => ?_) (by decide +kernel)
  rcases List.mem_cons.mp hd with rfl | hd
  · exact okr_name
  · rw [List.mem_singleton.mp hd]
    exact okr_x
theorem okr_pk {k : Nat} (hk : k ≤ 1000) : OkR 2 140 (.tup [.str (PySem.Str.ofString "power"), .tup [.str (PySem.Str.ofString "name"), .str (PySem.Str.ofString "x")], .int (k : Nat)]) := by
  refine OkR.tup (n := 1) (k := 45) (fun d hd => ?_) (by show 3 * 46 ≤ 140; decide)
  rcases List.mem_cons.mp hd with rfl | hd
  · exact okr_up okr_pow (Nat.le_refl _) (by decide)
  rcases List.mem_cons.mp hd with rfl | hd
  · exact okr_nx
  · rw [List.mem_singleton.mp hd]
    exact OkR.int (by omega) (by omega) (by decide)
theorem okr_nm {c : Int} (h0 : 0 ≤ c) (h1 : c < 1000000000000) : OkR 2 140 (.tup [.str (PySem.Str.ofString "num"), .int c]) := by
  refine OkR.tup (n := 1) (k := 45) (fun d hd => ?_) (by show 2 * 46 ≤ 140; decide)
  rcases List.mem_cons.mp hd with rfl | hd
  · exact okr_up okr_num (Nat.le_refl _) (by decide)
  · rw [List.mem_singleton.mp hd]
    exact OkR.int (by omega) (by omega) (by decide)
theorem star_okr {c : Int} {k : Nat} (h0 : 0 ≤ c) (h1 : c < 1000000000000) (hk : k ≤ 1000) : OkR 3 430 (starD c k) := by
  refine OkR.tup (n := 2) (k := 140) (fun d hd => ?_) (by show 3 * 141 ≤ 430; decide)
  rcases List.mem_cons.mp hd with rfl | hd
  · exact okr_up okr_mul (Nat.le_refl _) (by decide)
  rcases List.mem_cons.mp hd with rfl | hd
  · exact okr_nm h0 h1
  · rw [List.mem_singleton.mp hd]
    exact okr_pk hk
def wB : Nat → Nat
  | 0 => 430
  | k + 1 => 3 * (wB k + 1)
theorem wB_ge : ∀ k, 430 ≤ wB k
  | 0 => Nat.le_refl _
  | k + 1 => by
    have := wB_ge k
    show 430 ≤ 3 * (wB k + 1)
    omega
theorem balF_okr : ∀ (k n : Nat) (xs : List D), 1 ≤ xs.length → xs.length ≤ 2 ^ k → k < n → (∀ d ∈ xs, OkR 3 430 d) → OkR (k + 3) (wB k) (balF n xs)
  | k, 0, _, _, _, hn, _ => absurd hn (Nat.not_lt_zero _)
  | k, n + 1, xs, h1, h2, hn, h => by
    unfold balF
    split
    · rename_i e
      rw [List.getD_eq_getElem?_getD, List.getElem?_eq_getElem (by omega)]
      exact okr_up (h _ (List.getElem_mem _)) (by omega) (wB_ge k)
    · rename_i e
      cases k with
      | zero =>
        have : (2 : Nat) ^ 0 = 1 := rfl
        omega
      | succ k =>
        rw [Nat.pow_succ] at h2
        have g := wB_ge k
        refine OkR.tup (n := k + 3) (k := wB k) (fun d hd => ?_) (Nat.le_refl _)
        rcases List.mem_cons.mp hd with rfl | hd
        · exact okr_up okr_plus (Nat.le_refl _) (by omega)
        rcases List.mem_cons.mp hd with rfl | hd
        · exact balF_okr k n _ (by rw [List.length_take]; omega) (by rw [List.length_take]; omega) (by omega) fun d hd => h d (List.mem_of_mem_take hd)
        · rw [List.mem_singleton.mp hd]
          exact balF_okr k n _ (by rw [List.length_drop]; omega) (by rw [List.length_drop]; omega) (by omega) fun d hd => h d (List.mem_of_mem_drop hd)
theorem prim_31 : Prim 31 := prim_chk (p := 31) (k := 3) (by decide +kernel)
theorem prim_37 : Prim 37 := prim_chk (p := 37) (k := 3) (by decide +kernel)
theorem rd_law : ∀ ds m Φ Ψ, ds.length = 1 → CLaw ClawT ds m Φ Ψ → W_law { nx := fun _ m' => Φ .non m', rt := Φ } (fun _ => Ψ) (ds.map some ++ List.replicate (8 - ds.length) none) m := by
  intro ds m Φ Ψ _ h
  obtain ⟨ns, rfl, hlen, rfl, q⟩ := h
  change W_law _ _ [some (.rol (ns.map D.int)), none, none, none, none, none, none, none] _
  unfold W_law
  walk_at "stp"
  refine ⟨⟨ns, rfl, by omega⟩, rfl, ?_⟩
  walk_at "nxt"
  refine ⟨by decide, 9, rfl, rfl, by decide, by decide, fun t t0 t1 => ?_⟩
  have key : ∀ p : Int, PM p → Prim p → k1 [some (D.rol (ns.map D.int)), some (D.st 0), some (D.int p), none, none, none, none, none] { M := [], s := 1 } := by
    intro p hp P
    have hp1 := hp.1
    have hp2 := hp.2
    subst h1
    refine dSeq_k fun k1 h1 => ?_
    walk_at "dx"
    refine ⟨p, rfl, rfl, hp, fun es ei l1 l32 lp => ?_⟩
    have K : EsOK es p := ⟨hp, P, ei, l1, l32, lp⟩
    walk_at "nxt"
    walk_at "nxt"
    refine ⟨es, p, rfl, K, ?_⟩
    have cl : (coefF es p).length = es.length := coef_len _
    have cin : InP p (coefF es p) := coef_in hp1 _
    have cev : ∀ j, j < es.length → ev (coefF es p) (j : Nat) % p = Dl.gi es (j : Nat) := fun j hj => by
      have z := coef_ev K hj es.length (Nat.le_refl _)
      rw [if_pos hj] at z
      unfold Cg at z
      have g := ei.gN hj
      rw [Int.emod_eq_of_lt g.1 g.2] at z
      exact z
    obtain ⟨F, hF⟩ : ∃ F, F = coefF es p := ⟨_, rfl⟩
    rw [← hF] at cl cin cev ⊢
    walk_at "nxt"
    rw [if_neg (by omega), eqD_ints, decide_eq_true rfl]
    refine ⟨okE_ints, okE_ints, ?_⟩
    rw [if_neg (by decide)]
    walk_at "nxt"
    refine forW_map (inj := D.int) (fun r ρ m' => ∃ (ys : List Int) (o : Option D), ys ++ r = F ∧ ρ = [some (D.rol (ns.map D.int)), some (D.st 0), some (D.int p), some (.lst (es.map D.int)), some (.lst (es.map D.int)), some (.lst (F.map D.int)), o, none] ∧ m' = ⟨[], 1⟩) ?_ ?_ F _ _ ⟨[], _, rfl, rfl, rfl⟩
    · rintro x r k hk ρ m' ⟨ys, o, e, rfl, rfl⟩
      have hx := cin x (by rw [← e]; simp)
      walk_at "dx"
      rw [if_neg (by omega), if_neg (by omega)]
      exact hk _ _ ⟨ys ++ [x], _, by rw [List.append_assoc]; exact e, rfl, rfl⟩
    · rintro ρ m' ⟨ys, o, e, rfl, rfl⟩
      clear e
      subst h1
      dsimp only
      refine dSeq_k fun k1 h1 => ?_
      walk_at "dx"
      refine ⟨⟨by omega, by omega⟩, ?_⟩
      rw [rngD0, Int.toNat_natCast]
      refine forW_nat (fun i ρ m' => ∃ o7, ρ = [some (D.rol (ns.map D.int)), some (D.st 0), some (D.int p), some (.lst (es.map D.int)), some (.lst (es.map D.int)), some (.lst (F.map D.int)), o, o7] ∧ m' = ⟨[], 1⟩) ?_ ?_ ⟨_, rfl, rfl⟩
      · rintro i k hi hk ρ m' ⟨o7, rfl, rfl⟩
        walk_at "dx"
        refine ⟨F, (i : Nat), p, rfl, hp, by omega, by omega, by omega, ?_⟩
        walk_at "dx"
        refine ⟨_, atI_gi (by omega) (by omega), ?_⟩
        walk_at "dx"
        rw [cev i hi, if_neg (fun h => h rfl)]
        exact hk _ _ ⟨_, rfl, rfl⟩
      · rintro ρ m' ⟨o7, rfl, rfl⟩
        subst h1
        walk_at "dx"
        refine ⟨es, p, rfl, K, ?_⟩
        rw [← hF]
        have rl := rowF_len (cs := F)
        have ob : OkR 60 1048576 (balF 8 (rowF F)) := okr_up (balF_okr 5 8 (rowF F) (by omega) (by rw [rl, cl]; exact l32) (by decide) fun d hd => by
          unfold rowF at hd
          obtain ⟨k, hk, rfl⟩ := List.mem_map.mp hd
          have hk := List.mem_range.mp hk
          have g := cin.gN hk
          exact star_okr (by omega) (by omega) (by omega)) (by decide) (by decide)
        have et : ∃ ds, balF 8 (rowF F) = .tup ds := by
          show ∃ ds, (if (rowF F).length = 1 then (rowF F).getD 0 .non else _) = D.tup ds
          split
          · rename_i e
            unfold rowF
            rw [List.getD_eq_getElem?_getD, List.getElem?_map, List.getElem?_range (by omega)]
            exact ⟨_, rfl⟩
          · exact ⟨_, rfl⟩
        obtain ⟨T, hT⟩ : ∃ T, T = balF 8 (rowF F) := ⟨_, rfl⟩
        obtain ⟨ds, hds⟩ := et
        have rc : ∀ (m : MM) (Φ : D → MM → Prop), cRepr2 [T] m Φ = (OkR 60 1048576 T ∧ isSeq T = true ∧ Φ (.str (shownD T)) m) := fun _ _ => by rw [hT, hds]; rfl
        have sq : isSeq T = true := by rw [hT, hds]; rfl
        rw [← hT] at ob ⊢
        dsimp only
        rw [rc]
        refine ⟨ob, sq, F, 0, F.length, rfl, by omega, by rw [show (2 : Nat) ^ 8 = 256 from rfl]; omega, by omega, by omega, ?_⟩
        rw [List.drop_zero, ← rl, List.take_length, ← hT]
        dsimp only
        rw [rc]
        refine ⟨ob, sq, ?_⟩
        unfold oEqS
        dsimp only
        rw [decide_eq_true rfl, if_pos rfl, eqD_ints, decide_eq_true rfl]
        exact ⟨okE_ints, okE_ints, q _⟩
  have : t = 0 ∨ t = 1 ∨ t = 2 ∨ t = 3 ∨ t = 4 ∨ t = 5 ∨ t = 6 ∨ t = 7 ∨ t = 8 := by omega
  rcases this with rfl | rfl | rfl | rfl | rfl | rfl | rfl | rfl | rfl
  · exact ⟨_, atI_nat (j := 0) rfl, key 2 ⟨by decide, by decide⟩ prim_2⟩
  · exact ⟨_, atI_nat (j := 1) rfl, key 3 ⟨by decide, by decide⟩ prim_3⟩
  · exact ⟨_, atI_nat (j := 2) rfl, key 5 ⟨by decide, by decide⟩ prim_5⟩
  · exact ⟨_, atI_nat (j := 3) rfl, key 7 ⟨by decide, by decide⟩ prim_7⟩
  · exact ⟨_, atI_nat (j := 4) rfl, key 31 ⟨by decide, by decide⟩ prim_31⟩
  · exact ⟨_, atI_nat (j := 5) rfl, key 37 ⟨by decide, by decide⟩ prim_37⟩
  · exact ⟨_, atI_nat (j := 6) rfl, key 97 ⟨by decide, by decide⟩ prim_97⟩
  · exact ⟨_, atI_nat (j := 7) rfl, key 65537 ⟨by decide, by decide⟩ prim_65537⟩
  · exact ⟨_, atI_nat (j := 8) rfl, key 2147483647 ⟨by decide, by decide⟩ prim_M⟩

theorem ok_FieldError {P : Program} {w : World} {K : PySem.W.Frag} {mg : Str → Option Value} {base : Heap} (T : Txt K mg) : ErrOk P w K mg base "FieldError" ["number"] := by
  obtain ⟨m, x, hno, fI, fd, i1, i2, F, b⟩ := T.e_FieldError
  exact ⟨m, x, by decide, fI, fd, _, i1, i2, b, err_init1 F sc_FieldError_init rfl (fun _ _ _ _ _ _ => ps_expr (pe_binit (by rfl) T.i_FieldError.mgb T.i_FieldError.ini (pa_cons (pe_var (i := 0) rfl (.inl rfl)) (pa_cons pe_str pa_nil)))) (fun _ _ _ _ _ _ => ps_ost (pe_var (i := 0) rfl (.inl rfl)) (pe_var (i := 1) rfl (.inl rfl))) x (hno "number" (by decide))⟩
theorem ok_power {P : Program} {w : World} {K : PySem.W.Frag} {mg : Str → Option Value} {base : Heap} (T : Txt K mg) : Ok P w K mg base "power" 1 ["base", "exponent", "p"] C_power := by
  obtain ⟨f, fd, F, hm, b⟩ := T.d_power
  exact ⟨f, fd, hm, F.kp, b, okD (W := W_power) (k := 0) F sc_power (fun cdv A outer s H E hr => jss_cons (js_set 3 sc_power.nd rfl (Or.inl rfl) (je_op op_mod opl_mod (je_int) (je_var 2))) (jss_cons (js_set 4 sc_power.nd rfl (Or.inl rfl) (je_op op_mod opl_mod (je_var 0) (je_var 2))) (jss_cons (js_while passD (jt_cmp op_gt opl_gt (je_var 1) (je_int) (nomark _)) (jss_cons (js_if (jt_cmp (op_eqD hr.units) opl_eq (je_op op_mod opl_mod (je_var 1) (je_int)) (je_int) (nomark _)) (jss_one (js_set 3 sc_power.nd rfl (Or.inl rfl) (je_op op_mod opl_mod (je_op op_mulC opl_mul (je_var 3) (je_var 4)) (je_var 2)))) (jss_nil)) (jss_cons (js_set 4 sc_power.nd rfl (Or.inl rfl) (je_op op_mod opl_mod (je_op op_mulC opl_mul (je_var 4) (je_var 4)) (je_var 2))) (jss_one (js_aug 1 sc_power.nd rfl (Or.inl rfl) (je_int) iop_fdiv opl_idiv))))) (jss_one (js_ret (je_var 3)))))) rd_power⟩
theorem ok_inverse {P : Program} {w : World} {K : PySem.W.Frag} {mg : Str → Option Value} {base : Heap} (T : Txt K mg) (G_FieldError : ErrOk P w K mg base "FieldError" ["number"]) (G_power : Ok P w K mg base "power" 1 ["base", "exponent", "p"] C_power) : Ok P w K mg base "inverse" 3 ["number", "p"] C_inverse := by
  obtain ⟨f, fd, F, hm, b⟩ := T.d_inverse
  exact ⟨f, fd, hm, F.kp, b, okD (W := W_inverse) (k := 2) F sc_inverse (fun cdv A outer s H E hr => jss_cons (js_if (jt_cmp (op_eqD hr.units) opl_eq (je_op op_mod opl_mod (je_var 0) (je_var 1)) (je_int) (nomark _)) (jss_one (js_raise (c := "FieldError") (fs := ["number"]) rfl takesD G_FieldError (by rfl) (hr.mono (by decide)) (ja_cons (je_var 0) (ja_nil)))) (jss_nil)) (jss_one (js_ret (je_callO G_power takesD (hr.mono (by decide)) (by rfl) (ja_cons (je_var 0) (ja_cons (je_op op_sub opl_sub (je_var 1) (je_int)) (ja_cons (je_var 1) (ja_nil)))) 3)))) rd_inverse⟩
theorem ok_times_linear {P : Program} {w : World} {K : PySem.W.Frag} {mg : Str → Option Value} {base : Heap} (T : Txt K mg) : Ok P w K mg base "times_linear" 1 ["values", "k", "p"] C_times_linear := by
  obtain ⟨f, fd, F, hm, b⟩ := T.d_times_linear
  exact ⟨f, fd, hm, F.kp, b, okDQ (W := W_times_linear) (k := 0) F sc_times_linear (fun cdv A outer s H E hr => jss_cons (js_set 3 sc_times_linear.nd rfl (Or.inl rfl) (je_op op_addAll opl_addM (je_lst (ja_cons (je_int) (ja_nil))) (je_callTy call_list_of cbl_list (by rfl) T.n_list bt_list (ja_cons (je_var 0) (ja_nil))))) (jss_cons (js_for passD rfl (ji_range1 (by rfl) T.n_range (ja_cons (je_callB call_len cbl_len (by rfl) T.n_len bt_len (ja_cons (je_var 0) (ja_nil))) (ja_nil))) (jg_name (js := [4]) 4 (by decide) sc_times_linear.nd rfl (Or.inl rfl)) (jss_one (js_setIx (je_op op_mod opl_mod (je_op op_sub opl_sub (je_ix (je_var 3) (je_var 4)) (je_op op_mulC opl_mul (je_var 1) (je_ix (je_var 0) (je_var 4)))) (je_var 2)) (je_var 3) (je_var 4) (pg_sub (je_var 3) (je_var 4) set_list)))) (jss_one (js_ret (je_var 3))))) rd_times_linear⟩
theorem ok_coefficients {P : Program} {w : World} {K : PySem.W.Frag} {mg : Str → Option Value} {base : Heap} (T : Txt K mg) (G_times_linear : Ok P w K mg base "times_linear" 1 ["values", "k", "p"] C_times_linear) (G_inverse : Ok P w K mg base "inverse" 3 ["number", "p"] C_inverse) : Ok P w K mg base "coefficients" 4 ["entries", "p"] C_coefficients := by
  obtain ⟨f, fd, F, hm, b⟩ := T.d_coefficients
  exact ⟨f, fd, hm, F.kp, b, okDQ (W := W_coefficients) (k := 3) F sc_coefficients (fun cdv A outer s H E hr => jss_cons (js_set 2 sc_coefficients.nd rfl (Or.inl rfl) (je_callB call_len cbl_len (by rfl) T.n_len bt_len (ja_cons (je_var 0) (ja_nil)))) (jss_cons (js_set 3 sc_coefficients.nd rfl (Or.inl rfl) (je_op op_rep opl_repM (je_lst (ja_cons (je_int) (ja_nil))) (je_var 2))) (jss_cons (js_for passD rfl (ji_range1 (by rfl) T.n_range (ja_cons (je_var 2) (ja_nil))) (jg_name (js := [4]) 4 (by decide) sc_coefficients.nd rfl (Or.inl rfl)) (jss_cons (js_set 5 sc_coefficients.nd rfl (Or.inl rfl) (je_lst (ja_cons (je_int) (ja_nil)))) (jss_cons (js_set 6 sc_coefficients.nd rfl (Or.inl rfl) (je_int)) (jss_cons (js_for passD rfl (ji_range1 (by rfl) T.n_range (ja_cons (je_var 2) (ja_nil))) (jg_name (js := [7]) 7 (by decide) sc_coefficients.nd rfl (Or.inl rfl)) (jss_one (js_if (jt_cmp (op_neD hr.units) opl_ne (je_var 7) (je_var 4) (nomark _)) (jss_cons (js_set 5 sc_coefficients.nd rfl (Or.inl rfl) (je_callO G_times_linear takesD (hr.mono (by decide)) (by rfl) (ja_cons (je_var 5) (ja_cons (je_var 7) (ja_cons (je_var 1) (ja_nil)))) 3)) (jss_one (js_set 6 sc_coefficients.nd rfl (Or.inl rfl) (je_op op_mod opl_mod (je_op op_mulC opl_mul (je_var 6) (je_op op_sub opl_sub (je_var 4) (je_var 7))) (je_var 1))))) (jss_nil)))) (jss_cons (js_set 8 sc_coefficients.nd rfl (Or.inl rfl) (je_op op_mod opl_mod (je_op op_mulC opl_mul (je_ix (je_var 0) (je_var 4)) (je_callO G_inverse takesD (hr.mono (by decide)) (by rfl) (ja_cons (je_var 6) (ja_cons (je_var 1) (ja_nil))) 2)) (je_var 1))) (jss_one (js_for passD rfl (ji_range1 (by rfl) T.n_range (ja_cons (je_var 2) (ja_nil))) (jg_name (js := [9]) 9 (by decide) sc_coefficients.nd rfl (Or.inl rfl)) (jss_one (js_setIx (je_op op_mod opl_mod (je_op op_addAll opl_add (je_ix (je_var 3) (je_var 9)) (je_op op_mulC opl_mul (je_var 8) (je_ix (je_var 5) (je_var 9)))) (je_var 1)) (je_var 3) (je_var 9) (pg_sub (je_var 3) (je_var 9) set_list)))))))))) (jss_one (js_ret (je_var 3)))))) rd_coefficients⟩
theorem ok_balanced {P : Program} {w : World} {K : PySem.W.Frag} {mg : Str → Option Value} {base : Heap} (T : Txt K mg) : Ok P w K mg base "balanced" 9 ["row"] C_balanced := by
  obtain ⟨f, fd, F, hm, b⟩ := T.d_balanced
  have rcr : ∀ n : Nat, Ok P w K mg base "balanced" (1 + n) ["row"] (R_balanced n) := by
    intro n
    induction n with
    | zero => exact ⟨f, fd, hm, F.kp, b, ok_none (k := 0) F sc_balanced r0_balanced⟩
    | succ n G_balanced => exact ⟨f, fd, hm, F.kp, b, okD (W := W_balanced (R_balanced n)) (k := 1 + n) F sc_balanced (fun cdv A outer s H E hr => jss_cons (js_if (jt_cmp (op_eqD hr.units) opl_eq (je_callB call_len cbl_len (by rfl) T.n_len bt_len (ja_cons (je_var 0) (ja_nil))) (je_int) (nomark _)) (jss_one (js_ret (je_ix (je_var 0) (je_int)))) (jss_nil)) (jss_cons (js_set 1 sc_balanced.nd rfl (Or.inl rfl) (je_op op_fdivW opl_div (je_op op_addAll opl_add (je_callB call_len cbl_len (by rfl) T.n_len bt_len (ja_cons (je_var 0) (ja_nil))) (je_int)) (je_int))) (jss_one (js_ret (je_tup (ja_cons (je_str) (ja_cons (je_callO G_balanced takesD (hr.mono (by omega)) (by rfl) (ja_cons (je_sl (je_var 0) (jo_none) (jo_some (je_var 1))) (ja_nil)) 1) (ja_cons (je_callO G_balanced takesD (hr.mono (by omega)) (by rfl) (ja_cons (je_sl (je_var 0) (jo_some (je_var 1)) (jo_none)) (ja_nil)) 1) (ja_nil))))))))) (rd_balanced n)⟩
  exact rcr 8
theorem ok_picking {P : Program} {w : World} {K : PySem.W.Frag} {mg : Str → Option Value} {base : Heap} (T : Txt K mg) (G_coefficients : Ok P w K mg base "coefficients" 4 ["entries", "p"] C_coefficients) (G_balanced : Ok P w K mg base "balanced" 9 ["row"] C_balanced) : Ok P w K mg base "picking" 10 ["entries", "p"] C_picking := by
  obtain ⟨f, fd, F, hm, b⟩ := T.d_picking
  exact ⟨f, fd, hm, F.kp, b, okDQ (W := W_picking) (k := 9) F sc_picking (fun cdv A outer s H E hr => jss_cons (js_set 2 sc_picking.nd rfl (Or.inl rfl) (je_lstM (ja_nil))) (jss_cons (js_set 3 sc_picking.nd rfl (Or.inl rfl) (je_callO G_coefficients takesD (hr.mono (by decide)) (by rfl) (ja_cons (je_var 0) (ja_cons (je_var 1) (ja_nil))) 2)) (jss_cons (js_for passD rfl (ji_range1 (by rfl) T.n_range (ja_cons (je_callB call_len cbl_len (by rfl) T.n_len bt_len (ja_cons (je_var 3) (ja_nil))) (ja_nil))) (jg_name (js := [4]) 4 (by decide) sc_picking.nd rfl (Or.inl rfl)) (jss_one (js_expr (je_mL PySem.F.slot_list_append PySem.F.type_list_append mt_append mtl_app (je_var 2) (ja_cons (je_tup (ja_cons (je_str) (ja_cons (je_tup (ja_cons (je_str) (ja_cons (je_ix (je_var 3) (je_var 4)) (ja_nil)))) (ja_cons (je_tup (ja_cons (je_str) (ja_cons (je_tup (ja_cons (je_str) (ja_cons (je_str) (ja_nil)))) (ja_cons (je_var 4) (ja_nil))))) (ja_nil))))) (ja_nil)))))) (jss_one (js_frz 2 (js_ret (je_callO G_balanced takesD (hr.mono (by decide)) (by rfl) (ja_cons (je_var 2) (ja_nil)) 1))))))) rd_picking⟩
theorem ok__law_state {P : Program} {w : World} {K : PySem.W.Frag} {mg : Str → Option Value} {base : Heap} (T : Txt K mg) : Ok P w K mg base "_law_state" 1 ["_law_script"] C_state := by
  obtain ⟨f, fd, F, hm, b⟩ := T.d__law_state
  exact state_close ⟨f, fd, hm, F.kp, b, okD (C := C_stateO) (W := W_state) (k := 0) F sc__law_state (fun cdv A outer s H E hr => jss_cons (js_set 1 sc__law_state.nd rfl (Or.inl rfl) (je_int)) (jss_cons (js_for passD rfl (ji_list (je_var 0)) (jg_name (js := [2]) 2 (by decide) sc__law_state.nd rfl (Or.inl rfl)) (jss_one (js_set 1 sc__law_state.nd rfl (Or.inl rfl) (je_op op_mod opl_mod (je_callTy call_int1 cbl_int (by rfl) T.n_int bt_int (ja_cons (je_op op_addAll opl_add (je_op op_mulC opl_mul (je_var 1) (je_int)) (je_var 2)) (ja_nil))) (je_int))))) (jss_one (js_ret (je_lstM (ja_cons (je_lcM (own := [("_law_cell", 2)]) rfl sc__law_state.nd (ji_list (je_var 0)) (blkOk_by (N := ["_law_script", "_law_seed", "_law_cell"]) (sc := defScope s__law_state) (by decide +kernel)) (fun _ _ _ _ _ => jg_name (js := [2]) 2 (by decide) sc__law_state.nd rfl (Or.inl rfl)) (fun _ _ _ _ _ => jts_nil) (fun _ _ _ _ _ => je_callB call_abs cbl_abs (by rfl) T.n_abs bt_abs (ja_cons (je_var 2) (ja_nil)))) (ja_cons (je_op op_addAll opl_add (je_var 1) (je_int)) (ja_nil)))))))) rd_state⟩
theorem ok__law_draw {P : Program} {w : World} {K : PySem.W.Frag} {mg : Str → Option Value} {base : Heap} (T : Txt K mg) : Ok P w K mg base "_law_draw" 1 ["_law_state_here", "_law_many"] C_draw := by
  obtain ⟨f, fd, F, hm, b⟩ := T.d__law_draw
  exact draw_close ⟨f, fd, hm, F.kp, b, okD (C := C_drawO) (W := W_draw1) (k := 0) F sc__law_draw (fun cdv A outer s H E hr => jss_cons (js_set 2 sc__law_draw.nd rfl (Or.inl rfl) (je_ix (je_var 0) (je_int))) (jss_cons (js_while passD (PW.pt (jw_and (jt_cmp op_gt opl_gt (je_callB call_len cbl_len (by rfl) T.n_len bt_len (ja_cons (je_var 2) (ja_nil))) (je_int) (nomark _)) (jw_and1 (jt_cmp (op_eqD hr.units) opl_eq (je_ix (je_var 2) (je_int)) (je_int) (nomark _))))) (jss_one (js_expr (je_mL PySem.F.slot_list_pop PySem.F.type_list_pop mt_popAt mtl_popAt (je_var 2) (ja_cons (je_int) (ja_nil)))))) (jss_cons (js_if (jt_cmp op_gt opl_gt (je_callB call_len cbl_len (by rfl) T.n_len bt_len (ja_cons (je_var 2) (ja_nil))) (je_int) (nomark _)) (jss_cons (js_set 4 sc__law_draw.nd rfl (Or.inl rfl) (je_ix (je_var 2) (je_int))) (jss_cons (js_setIx (je_op op_fdivW opl_div (je_var 4) (je_var 1)) (je_var 2) (je_int) (pg_sub (je_var 2) (je_int) set_list)) (jss_one (js_ret (je_op op_mod opl_mod (je_callTy call_int1 cbl_int (by rfl) T.n_int bt_int (ja_cons (je_var 4) (ja_nil))) (je_var 1)))))) (jss_nil)) (jss_cons (js_set 3 sc__law_draw.nd rfl (Or.inl rfl) (je_op op_mod opl_mod (je_callTy call_int1 cbl_int (by rfl) T.n_int bt_int (ja_cons (je_op op_addAll opl_add (je_op op_mulC opl_mul (je_ix (je_var 0) (je_int)) (je_int)) (je_int)) (ja_nil))) (je_int))) (jss_cons (js_setIx (je_var 3) (je_var 0) (je_int) (pg_sub (je_var 0) (je_int) set_list)) (jss_one (js_ret (je_op op_mod opl_mod (je_callTy call_int1 cbl_int (by rfl) T.n_int bt_int (ja_cons (je_op op_fdivW opl_div (je_var 3) (je_int)) (ja_nil))) (je_var 1))))))))) rd_draw1⟩
theorem ok__law_entries {P : Program} {w : World} {K : PySem.W.Frag} {mg : Str → Option Value} {base : Heap} (T : Txt K mg) (G__law_draw : Ok P w K mg base "_law_draw" 1 ["_law_state_here", "_law_many"] C_draw) : Ok P w K mg base "_law_entries" 2 ["_law_state_here", "_law_p"] C__law_entries := by
  obtain ⟨f, fd, F, hm, b⟩ := T.d__law_entries
  exact ⟨f, fd, hm, F.kp, b, okDQ (W := W__law_entries) (k := 1) F sc__law_entries (fun cdv A outer s H E hr => jss_cons (js_set 2 sc__law_entries.nd rfl (Or.inl rfl) (je_lstM (ja_nil))) (jss_cons (js_for passD rfl (ji_range1 (by rfl) T.n_range (ja_cons (je_callB (call_min2 rfl) cbl_min2 (by rfl) T.n_min bt_min (ja_cons (je_var 1) (ja_cons (je_op op_addAll opl_add (je_int) (je_callO G__law_draw takesD (hr.mono (by decide)) (by rfl) (ja_cons (je_var 0) (ja_cons (je_ix (je_lst (ja_cons (je_int) (ja_cons (je_int) (ja_nil)))) (je_callO G__law_draw takesD (hr.mono (by decide)) (by rfl) (ja_cons (je_var 0) (ja_cons (je_int) (ja_nil))) 2)) (ja_nil))) 2)) (ja_nil)))) (ja_nil))) (jg_name (js := [3]) 3 (by decide) sc__law_entries.nd rfl (Or.inl rfl)) (jss_one (js_expr (je_mL PySem.F.slot_list_append PySem.F.type_list_append mt_append mtl_app (je_var 2) (ja_cons (je_ix (je_lst (ja_cons (je_callO G__law_draw takesD (hr.mono (by decide)) (by rfl) (ja_cons (je_var 0) (ja_cons (je_var 1) (ja_nil))) 2) (ja_cons (je_int) (ja_cons (je_op op_sub opl_sub (je_var 1) (je_int)) (ja_cons (je_callO G__law_draw takesD (hr.mono (by decide)) (by rfl) (ja_cons (je_var 0) (ja_cons (je_int) (ja_nil))) 2) (ja_nil)))))) (je_callO G__law_draw takesD (hr.mono (by decide)) (by rfl) (ja_cons (je_var 0) (ja_cons (je_int) (ja_nil))) 2)) (ja_nil)))))) (jss_one (js_ret (je_var 2))))) rd__law_entries⟩
theorem ok__law_at {P : Program} {w : World} {K : PySem.W.Frag} {mg : Str → Option Value} {base : Heap} (T : Txt K mg) : Ok P w K mg base "_law_at" 1 ["_law_numbers", "_law_x", "_law_p"] C__law_at := by
  obtain ⟨f, fd, F, hm, b⟩ := T.d__law_at
  exact ⟨f, fd, hm, F.kp, b, okD (W := W__law_at) (k := 0) F sc__law_at (fun cdv A outer s H E hr => jss_cons (js_set 3 sc__law_at.nd rfl (Or.inl rfl) (je_int)) (jss_cons (js_for passD rfl (ji_range1 (by rfl) T.n_range (ja_cons (je_callB call_len cbl_len (by rfl) T.n_len bt_len (ja_cons (je_var 0) (ja_nil))) (ja_nil))) (jg_name (js := [4]) 4 (by decide) sc__law_at.nd rfl (Or.inl rfl)) (jss_one (js_set 3 sc__law_at.nd rfl (Or.inl rfl) (je_op op_mod opl_mod (je_callTy call_int1 cbl_int (by rfl) T.n_int bt_int (ja_cons (je_op op_addAll opl_add (je_op op_mulC opl_mul (je_var 3) (je_var 1)) (je_ix (je_var 0) (je_op op_sub opl_sub (je_op op_sub opl_sub (je_callB call_len cbl_len (by rfl) T.n_len bt_len (ja_cons (je_var 0) (ja_nil))) (je_int)) (je_var 4)))) (ja_nil))) (je_var 2))))) (jss_one (js_ret (je_var 3))))) rd__law_at⟩
theorem ok__law_sum {P : Program} {w : World} {K : PySem.W.Frag} {mg : Str → Option Value} {base : Heap} (T : Txt K mg) : Ok P w K mg base "_law_sum" 9 ["_law_numbers", "_law_first", "_law_many"] C__law_sum := by
  obtain ⟨f, fd, F, hm, b⟩ := T.d__law_sum
  have rcr : ∀ n : Nat, Ok P w K mg base "_law_sum" (1 + n) ["_law_numbers", "_law_first", "_law_many"] (R__law_sum n) := by
    intro n
    induction n with
    | zero => exact ⟨f, fd, hm, F.kp, b, ok_none (k := 0) F sc__law_sum r0__law_sum⟩
    | succ n G__law_sum => exact ⟨f, fd, hm, F.kp, b, okD (W := W__law_sum (R__law_sum n)) (k := 1 + n) F sc__law_sum (fun cdv A outer s H E hr => jss_cons (js_if (jt_cmp (op_eqD hr.units) opl_eq (je_var 2) (je_int) (nomark _)) (jss_one (js_ret (je_tup (ja_cons (je_str) (ja_cons (je_tup (ja_cons (je_str) (ja_cons (je_ix (je_var 0) (je_var 1)) (ja_nil)))) (ja_cons (je_tup (ja_cons (je_str) (ja_cons (je_tup (ja_cons (je_str) (ja_cons (je_str) (ja_nil)))) (ja_cons (je_var 1) (ja_nil))))) (ja_nil))))))) (jss_nil)) (jss_cons (js_set 3 sc__law_sum.nd rfl (Or.inl rfl) (je_op op_fdivW opl_div (je_var 2) (je_int))) (jss_cons (js_if (jt_cmp op_lt opl_lt (je_op op_mulC opl_mul (je_int) (je_var 3)) (je_var 2) (nomark _)) (jss_one (js_set 3 sc__law_sum.nd rfl (Or.inl rfl) (je_op op_addAll opl_add (je_var 3) (je_int)))) (jss_nil)) (jss_one (js_ret (je_tup (ja_cons (je_str) (ja_cons (je_callO G__law_sum takesD (hr.mono (by omega)) (by rfl) (ja_cons (je_var 0) (ja_cons (je_var 1) (ja_cons (je_var 3) (ja_nil)))) 3) (ja_cons (je_callO G__law_sum takesD (hr.mono (by omega)) (by rfl) (ja_cons (je_var 0) (ja_cons (je_op op_addAll opl_add (je_var 1) (je_var 3)) (ja_cons (je_op op_sub opl_sub (je_var 2) (je_var 3)) (ja_nil)))) 3) (ja_nil)))))))))) (rd__law_sum n)⟩
  exact rcr 8
theorem ok_law {P : Program} {w : World} {K : PySem.W.Frag} {mg : Str → Option Value} {base : Heap} {f : Addr} {fd : FuncData} (T : Txt K mg) (G__law_state : Ok P w K mg base "_law_state" 1 ["_law_script"] C_state) (G__law_entries : Ok P w K mg base "_law_entries" 2 ["_law_state_here", "_law_p"] C__law_entries) (G_coefficients : Ok P w K mg base "coefficients" 4 ["entries", "p"] C_coefficients) (G__law_draw : Ok P w K mg base "_law_draw" 1 ["_law_state_here", "_law_many"] C_draw) (G__law_at : Ok P w K mg base "_law_at" 1 ["_law_numbers", "_law_x", "_law_p"] C__law_at) (G_picking : Ok P w K mg base "picking" 10 ["entries", "p"] C_picking) (G__law_sum : Ok P w K mg base "_law_sum" 9 ["_law_numbers", "_law_first", "_law_many"] C__law_sum) (F : Fun K "law" "law" s_law f fd) : LawAt P w K mg base f fd ["_law_script"] (spOf K 1 (CLaw ClawT)) :=
  lawAtD (W := W_law) (k := 10) F sc_law ⟨rfl, by decide, by decide⟩ (fun cdv A outer s H E hgA hr => jss_cons (js_set 1 sc_law.nd rfl (Or.inl rfl) (je_callO G__law_state takesD (hr.mono (by decide)) (by rfl) (ja_cons (je_var 0) (ja_nil)) 1)) (jss_cons (js_set 2 sc_law.nd rfl (Or.inl rfl) (je_ix (je_lst (ja_cons (je_int) (ja_cons (je_int) (ja_cons (je_int) (ja_cons (je_int) (ja_cons (je_int) (ja_cons (je_int) (ja_cons (je_int) (ja_cons (je_int) (ja_cons (je_int) (ja_nil))))))))))) (je_callO G__law_draw takesD (hr.mono (by decide)) (by rfl) (ja_cons (je_var 1) (ja_cons (je_int) (ja_nil))) 2))) (jss_cons (js_set 3 sc_law.nd rfl (Or.inl rfl) (je_callO G__law_entries takesD (hr.mono (by decide)) (by rfl) (ja_cons (je_var 1) (ja_cons (je_var 2) (ja_nil))) 2)) (jss_cons (js_set 4 sc_law.nd rfl (Or.inl rfl) (je_callTy call_list_of cbl_list (by rfl) T.n_list bt_list (ja_cons (je_var 3) (ja_nil)))) (jss_cons (js_set 5 sc_law.nd rfl (Or.inl rfl) (je_callO G_coefficients takesD (hr.mono (by decide)) (by rfl) (ja_cons (je_var 4) (ja_cons (je_var 2) (ja_nil))) 2)) (jss_cons (js_if (PW.pt (jw_or (jt_not (jt_val (je_callB call_isi cbl_isi (by rfl) T.n_isinstance bt_isinstance (ja_cons (je_var 5) (ja_cons (je_ty (n := "list") (by rfl) T.n_list bt_list) (ja_nil)))))) (jw_or (jt_cmp (op_neD hr.units) opl_ne (je_callB call_len cbl_len (by rfl) T.n_len bt_len (ja_cons (je_var 5) (ja_nil))) (je_callB call_len cbl_len (by rfl) T.n_len bt_len (ja_cons (je_var 3) (ja_nil))) (nomark _)) (jw_or1 (jt_cmp (op_neD hr.units) opl_ne (je_var 4) (je_var 3) (nomark _)))))) (jss_one (js_ret (je_bl))) (jss_nil)) (jss_cons (js_for passD rfl (ji_list (je_var 5)) (jg_name (js := [6]) 6 (by decide) sc_law.nd rfl (Or.inl rfl)) (jss_one (js_if (PW.pt (jw_or (jt_not (jt_val (je_callB call_isi cbl_isi (by rfl) T.n_isinstance bt_isinstance (ja_cons (je_var 6) (ja_cons (je_ty (n := "int") (by rfl) T.n_int bt_int) (ja_nil)))))) (jw_or (jt_val (je_callB call_isi cbl_isi (by rfl) T.n_isinstance bt_isinstance (ja_cons (je_var 6) (ja_cons (je_ty (n := "bool") (by rfl) T.n_bool bt_bool) (ja_nil))))) (jw_or (jt_cmp op_lt opl_lt (je_var 6) (je_int) (nomark _)) (jw_or1 (jt_cmp op_ge opl_ge (je_var 6) (je_var 2) (nomark _))))))) (jss_one (js_ret (je_bl))) (jss_nil)))) (jss_cons (js_for passD rfl (ji_range1 (by rfl) T.n_range (ja_cons (je_callB call_len cbl_len (by rfl) T.n_len bt_len (ja_cons (je_var 3) (ja_nil))) (ja_nil))) (jg_name (js := [7]) 7 (by decide) sc_law.nd rfl (Or.inl rfl)) (jss_one (js_if (jt_cmp (op_neD hr.units) opl_ne (je_callO G__law_at takesD (hr.mono (by decide)) (by rfl) (ja_cons (je_var 5) (ja_cons (je_var 7) (ja_cons (je_var 2) (ja_nil)))) 3) (je_ix (je_var 3) (je_var 7)) (nomark _)) (jss_one (js_ret (je_bl))) (jss_nil)))) (jss_one (js_ret (je_and (je_cmp op_eq opl_eqS (je_callB (callR_repr2 hgA (room_un hr)) cbl_repr2 (by rfl) T.n_repr bt_repr (ja_cons (je_callO G_picking takesD (hr.mono (by decide)) (by rfl) (ja_cons (je_var 4) (ja_cons (je_var 2) (ja_nil))) 2) (ja_nil))) (je_callB (callR_repr2 hgA (room_un hr)) cbl_repr2 (by rfl) T.n_repr bt_repr (ja_cons (je_callO G__law_sum takesD (hr.mono (by decide)) (by rfl) (ja_cons (je_var 5) (ja_cons (je_int) (ja_cons (je_callB call_len cbl_len (by rfl) T.n_len bt_len (ja_cons (je_var 5) (ja_nil))) (ja_nil)))) 3) (ja_nil))) (nomark _)) (je_one (je_cmp (op_eqD hr.units) opl_eq (je_var 4) (je_var 3) (nomark _)))))))))))))) rd_law
theorem all_ok {P : Program} {w : World} {K : PySem.W.Frag} {mg : Str → Option Value} {base : Heap} {f : Addr} {fd : FuncData} (T : Txt K mg) (F : Fun K "law" "law" s_law f fd) : LawAt P w K mg base f fd ["_law_script"] (spOf K 1 (CLaw ClawT)) := by
  have G_FieldError := ok_FieldError (P := P) (w := w) (base := base) T
  have G__law_state := ok__law_state (P := P) (w := w) (base := base) T
  have G__law_draw := ok__law_draw (P := P) (w := w) (base := base) T
  have G__law_entries := ok__law_entries (P := P) (w := w) (base := base) T G__law_draw
  have G_times_linear := ok_times_linear (P := P) (w := w) (base := base) T
  have G_power := ok_power (P := P) (w := w) (base := base) T
  have G_inverse := ok_inverse (P := P) (w := w) (base := base) T G_FieldError G_power
  have G_coefficients := ok_coefficients (P := P) (w := w) (base := base) T G_times_linear G_inverse
  have G__law_at := ok__law_at (P := P) (w := w) (base := base) T
  have G_balanced := ok_balanced (P := P) (w := w) (base := base) T
  have G_picking := ok_picking (P := P) (w := w) (base := base) T G_coefficients G_balanced
  have G__law_sum := ok__law_sum (P := P) (w := w) (base := base) T
  exact ok_law T G__law_state G__law_entries G_coefficients G__law_draw G__law_at G_picking G__law_sum F
theorem law_fin {l : PySem.W.OpenLaw} {w : World} {K : PySem.W.Frag} {mg : Str → Option Value} {fa : Addr} (T : Txt K mg) (hfa : mg "law" = some (.ref fa)) : ∃ fd : FuncData, (∀ (s : Shared) (v : Value), BindsTo s fd ⟨[v], []⟩ [("_law_script", v)]) ∧
    ∀ base : Heap, K.In base → base.Ns mainGlobals mg → LawAt l.prog w K mg base fa fd ["_law_script"] (spOf K 1 (CLaw ClawT)) := by
  obtain ⟨f, fd, F, hm, b⟩ := T.d_law
  have e := hfa.symm.trans hm
  cases e
  exact ⟨fd, fun s v => .of_eq (b [v] rfl), fun base _ _ => all_ok T F⟩
end K72
open PySem PySem.W PyProof.Rows
open PySem PySem.W PySem.Calls PyProof.Rows
theorem PySem.Challenge.cw_layerask_k72_tables_pick_holds : PySem.Challenge.rw_layerask_k72_tables_pick.Holds := by
  refine K72.pre ?hc
  case hc =>
    refine Dl.walk_DGE (l := PySem.Challenge.rw_layerask_k72_tables_pick) (x := "_law_script") rfl rfl ?F
    case F =>
      intro w mg fa h Y G hmg0
      obtain ⟨K, KX, c⟩ := Y
      have hmg : mg ("law" : PySem.Str) = some (.ref fa) := by
        have e : (HandSHeadRun.topDef (PySem.W.OpenLaw.row PySem.Challenge.rw_layerask_k72_tables_pick).prog 17).name = ("law" : PySem.Str) := by kernel_rfl
        rw [← e]
        exact hmg0
      obtain ⟨fd, hb, hF⟩ := K72.law_fin (l := PySem.Challenge.rw_layerask_k72_tables_pick) (w := w) (K72.he_txt KX G c) hmg
      exact ⟨K, fd, KX, hb, hF⟩
