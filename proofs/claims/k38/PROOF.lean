import PyProof.Rows.All
import Wide.All
import OpenK.AllK
import Wide.FinOn
import HandS.ForMost
import HandS.ForExc
import HandS.Wide
import HandS.EndBits
import HandS.ExcInit
import HandS.IsInst
import HandS.ExcField
import HandS.ExcIs
import KE.KExcIs
import HandS.TryMany
import HandS.Deep
import HandS.Style
import HandS.CallSlots
import HandS.Head0
import HandS.Head1
import HandS.Head2
import HandS.HeadEnd
import HandS.HeadHook1
import HandS.Text
import HandS.Codes
import HandS.Iter
import HandS.TupMul
import PyProof.StrOps2
import KE.GoesRaise
import PySem.Challenge.RW_layerask_k38_texts_that_are_no_conversat
set_option Elab.async false
set_option linter.all false
set_option maxRecDepth 100000
set_option maxHeartbeats 4000000

/-! Data level: values as trees, a store of changing objects, readings lifted to them. -/
namespace Dl
open PySem L2

/-- where the class of this name stands -/
def kcl (K : PySem.W.Frag) (c : String) : Addr := match PySem.W.nsIn K mainGlobals (PySem.Str.ofString c) with
  | some (some (.ref C)) => C
  | _ => 0
theorem kcl_of {K : PySem.W.Frag} {c : String} {C : Addr} (h : PySem.W.nsIn K mainGlobals (PySem.Str.ofString c) = some (some (.ref C))) : kcl K c = C := by
  unfold kcl
  rw [h]

theorem ofString_inj {a b : String} : PySem.Str.ofString a = PySem.Str.ofString b ↔ a = b := by
  constructor
  · intro h
    rw [PySem.Str.ofString_eq_toList, PySem.Str.ofString_eq_toList] at h
    have h1 := congrArg (fun s => s.cps.toList) h
    have h2 : a.toList.map Char.toNat = b.toList.map Char.toNat := by simpa using h1
    have h3 : a.toList = b.toList := by
      refine List.map_inj_right (f := Char.toNat) ?_ |>.mp h2
      intro x y e
      exact Char.ext (UInt32.toNat_inj.mp e)
    exact String.ext h3
  · intro h; rw [h]
theorem ofString_beq {a b : String} : (PySem.Str.ofString a == PySem.Str.ofString b) = (a == b) := by
  rw [Bool.eq_iff_iff, beq_iff_eq, beq_iff_eq]
  exact ofString_inj

inductive D where
  | non | bl (b : Bool) | int (i : Int) | str (x : Str) | ty (n : String) | cls (c : String)
  | lst (ds : List D) | tup (ds : List D) | rol (ds : List D) | rot (ds : List D)
  | hnd (k : Nat) | st (k : Nat)
  | exc (a d : Addr) (c : String) (fs : List (String × D))

/-- the drawing state of a law: where it stands (k 0: a list of a list of ints and an int; k 1: a list of ints, the first a place in it) -/
structure LS where
  A : Addr
  c : Addr
  k : Nat
def LS.fp (S : LS) : List Addr := if S.k = 0 then [S.A, S.c] else [S.A]
def LS.ok (S : LS) (H : Hp) : Prop := if S.k = 0 then ∃ (cells : List Int) (seed : Int), H S.A = some (.lst [.ref S.c, .int seed]) ∧ H S.c = some (.lst (cells.map V.int))
  else ∃ (j : Int) (ns : List Int), 1 ≤ j ∧ H S.A = some (.lst ((j :: ns).map V.int))
theorem LS.fr (S : LS) (H H' : Hp) (e : ∀ a ∈ S.fp, H' a = H a) (h : S.ok H) : S.ok H' := by
  unfold LS.ok at *
  unfold LS.fp at e
  by_cases z : S.k = 0
  · rw [if_pos z] at *
    obtain ⟨cells, seed, h1, h2⟩ := h
    exact ⟨cells, seed, by rw [e _ (by simp)]; exact h1, by rw [e _ (by simp)]; exact h2⟩
  · rw [if_neg z] at *
    obtain ⟨j, ns, h0, h1⟩ := h
    exact ⟨j, ns, h0, by rw [e _ (by simp)]; exact h1⟩
/-- what changes -/
inductive MO where
  | lst (ds : List D)
  | ins (C : String) (fs : List (String × D))
  | dead
/-- s: 0 no drawing state yet, 1 there is one, 2 it is opened -/
structure MM where
  M : List MO
  s : Nat
structure Wd where
  F : Hp
  th : List Addr
  S : Option LS

section
variable (K : PySem.W.Frag) (w : Wd)
mutual
def Rep : D → V → Prop
  | .non, v => v = .non
  | .bl b, v => v = .bl b
  | .int i, v => v = .int i
  | .str x, v => v = .str x
  | .ty n, v => v = .ty n
  | .cls c, v => v = .ref (kcl K c)
  | .lst ds, v => ∃ a xs, v = .ref a ∧ w.F a = some (.lst xs) ∧ RepAll ds xs
  | .tup ds, v => ∃ a xs, v = .ref a ∧ w.F a = some (.tup xs) ∧ RepAll ds xs
  | .rol ds, v => ∃ a xs, v = .ref a ∧ SqL K w.F a xs ∧ RepAll ds xs
  | .rot ds, v => ∃ a xs, v = .ref a ∧ SqT K w.F a xs ∧ RepAll ds xs
  | .hnd k, v => ∃ a, v = .ref a ∧ w.th[k]? = some a
  | .st k, v => ∃ S, w.S = some S ∧ S.k = k ∧ v = .ref S.A
  | .exc a d c fs, v => v = .ref a ∧ ∃ xs, w.F d = some (.xd xs) ∧ RepF fs xs
def RepAll : List D → List V → Prop
  | [], vs => vs = []
  | d :: ds, vs => ∃ v r, vs = v :: r ∧ Rep d v ∧ RepAll ds r
def RepF : List (String × D) → List (Str × V) → Prop
  | [], vs => vs = []
  | (f, d) :: ds, vs => ∃ v r, vs = (PySem.Str.ofString f, v) :: r ∧ Rep d v ∧ RepF ds r
end
end

/-- later worlds -/
structure Wd.le (w w' : Wd) : Prop where
  F : ∀ a o, w.F a = some o → w'.F a = some o
  th : ∀ (k : Nat) a, w.th[k]? = some a → w'.th[k]? = some a
  S : ∀ S, w.S = some S → w'.S = some S
theorem Wd.le.refl (w : Wd) : w.le w := ⟨fun _ _ h => h, fun _ _ h => h, fun _ h => h⟩
theorem Wd.le.trans {a b c : Wd} (h : a.le b) (g : b.le c) : a.le c := ⟨fun x o e => g.F x o (h.F x o e), fun k x e => g.th k x (h.th k x e), fun S e => g.S S (h.S S e)⟩

theorem sql_mono {K : PySem.W.Frag} {H H' : Hp} {a : Addr} {xs : List V} (e : ∀ a o, H a = some o → H' a = some o) (h : SqL K H a xs) : SqL K H' a xs := by
  rcases h with (h | ⟨o, h⟩) | h
  · exact .inl (.inl (e _ _ h))
  · exact .inl (.inr ⟨o, e _ _ h⟩)
  · exact .inr h
theorem sqt_mono {K : PySem.W.Frag} {H H' : Hp} {a : Addr} {xs : List V} (e : ∀ a o, H a = some o → H' a = some o) (h : SqT K H a xs) : SqT K H' a xs := by
  rcases h with (h | ⟨o, h⟩) | h
  · exact .inl (.inl (e _ _ h))
  · exact .inl (.inr ⟨o, e _ _ h⟩)
  · exact .inr h
section
variable {K : PySem.W.Frag} {w w' : Wd}
mutual
theorem Rep.mono (l : w.le w') : ∀ (d : D) (v : V), Rep K w d v → Rep K w' d v
  | .non, _, h => h
  | .bl _, _, h => h
  | .int _, _, h => h
  | .str _, _, h => h
  | .ty _, _, h => h
  | .cls _, _, h => h
  | .lst ds, _, h => by
    obtain ⟨a, xs, e, q, r⟩ := h
    exact ⟨a, xs, e, l.F _ _ q, RepAll.mono l ds xs r⟩
  | .tup ds, _, h => by
    obtain ⟨a, xs, e, q, r⟩ := h
    exact ⟨a, xs, e, l.F _ _ q, RepAll.mono l ds xs r⟩
  | .rol ds, _, h => by
    obtain ⟨a, xs, e, q, r⟩ := h
    exact ⟨a, xs, e, sql_mono l.F q, RepAll.mono l ds xs r⟩
  | .rot ds, _, h => by
    obtain ⟨a, xs, e, q, r⟩ := h
    exact ⟨a, xs, e, sqt_mono l.F q, RepAll.mono l ds xs r⟩
  | .hnd k, _, h => by
    obtain ⟨a, e, q⟩ := h
    exact ⟨a, e, l.th _ _ q⟩
  | .st _, _, h => by
    obtain ⟨S, e, q⟩ := h
    exact ⟨S, l.S _ e, q⟩
  | .exc a d c fs, _, h => by
    obtain ⟨e, xs, q, r⟩ := h
    exact ⟨e, xs, l.F _ _ q, RepF.mono l fs xs r⟩
theorem RepAll.mono (l : w.le w') : ∀ (ds : List D) (vs : List V), RepAll K w ds vs → RepAll K w' ds vs
  | [], _, h => h
  | d :: ds, _, h => by
    obtain ⟨v, r, e, a, b⟩ := h
    exact ⟨v, r, e, Rep.mono l d v a, RepAll.mono l ds r b⟩
theorem RepF.mono (l : w.le w') : ∀ (ds : List (String × D)) (vs : List (Str × V)), RepF K w ds vs → RepF K w' ds vs
  | [], _, h => h
  | (f, d) :: ds, _, h => by
    obtain ⟨v, r, e, a, b⟩ := h
    exact ⟨v, r, e, Rep.mono l d v a, RepF.mono l ds r b⟩
end
theorem RepAll.length : ∀ {ds : List D} {vs : List V}, RepAll K w ds vs → vs.length = ds.length
  | [], _, h => by
    have e : _ = [] := h
    subst e; rfl
  | d :: ds, _, h => by
    obtain ⟨v, r, e, a, b⟩ := h
    subst e
    rw [List.length_cons, List.length_cons, RepAll.length b]
theorem RepAll.get : ∀ {ds : List D} {vs : List V} {i : Nat} {d : D}, RepAll K w ds vs → ds[i]? = some d → ∃ v, vs[i]? = some v ∧ Rep K w d v
  | [], _, _, _, _, h => by simp at h
  | d :: ds, _, i, d', h, e => by
    obtain ⟨v, r, rfl, a, b⟩ := h
    cases i with
    | zero => simp at e; subst e; exact ⟨v, rfl, a⟩
    | succ i => exact RepAll.get (i := i) b (by simpa using e)
theorem RepAll.append : ∀ {ds es : List D} {vs us : List V}, RepAll K w ds vs → RepAll K w es us → RepAll K w (ds ++ es) (vs ++ us)
  | [], _, _, _, h, g => by
    have q : _ = [] := h
    subst q; exact g
  | d :: ds, _, _, _, h, g => by
    obtain ⟨v, r, rfl, a, b⟩ := h
    exact ⟨v, _, rfl, a, RepAll.append b g⟩
theorem RepAll.set : ∀ {ds : List D} {vs : List V} {d : D} {v : V} (i : Nat), RepAll K w ds vs → Rep K w d v → RepAll K w (ds.set i d) (vs.set i v)
  | [], _, _, _, _, h, _ => by
    have q : _ = [] := h
    subst q; exact rfl
  | d :: ds, _, d', v', i, h, g => by
    obtain ⟨v, r, rfl, a, b⟩ := h
    cases i with
    | zero => exact ⟨v', r, rfl, g, b⟩
    | succ i => exact ⟨v, _, rfl, a, RepAll.set i b g⟩
theorem RepAll.take : ∀ {ds : List D} {vs : List V} (n : Nat), RepAll K w ds vs → RepAll K w (ds.take n) (vs.take n)
  | [], _, n, h => by
    have q : _ = [] := h
    subst q; simp; exact rfl
  | d :: ds, _, n, h => by
    obtain ⟨v, r, rfl, a, b⟩ := h
    cases n with
    | zero => exact rfl
    | succ n => exact ⟨v, _, rfl, a, RepAll.take n b⟩
theorem RepAll.drop : ∀ {ds : List D} {vs : List V} (n : Nat), RepAll K w ds vs → RepAll K w (ds.drop n) (vs.drop n)
  | [], _, n, h => by
    have q : _ = [] := h
    subst q; simp; exact rfl
  | d :: ds, _, n, h => by
    obtain ⟨v, r, rfl, a, b⟩ := h
    cases n with
    | zero => exact ⟨v, _, rfl, a, b⟩
    | succ n => exact RepAll.drop n b
theorem RepAll.reverse {ds : List D} {vs : List V} (h : RepAll K w ds vs) : RepAll K w ds.reverse vs.reverse := by
  induction ds generalizing vs with
  | nil =>
    have q : vs = [] := h
    subst q; exact rfl
  | cons d ds ih =>
    obtain ⟨v, r, rfl, a, b⟩ := h
    rw [List.reverse_cons, List.reverse_cons]
    exact RepAll.append (ih b) ⟨v, [], rfl, a, rfl⟩
theorem RepF.look : ∀ {ds : List (String × D)} {vs : List (Str × V)} {f : String} {d : D}, RepF K w ds vs → ds.lookup f = some d → ∃ v, vs.lookup (PySem.Str.ofString f) = some v ∧ Rep K w d v
  | [], _, _, _, _, h => by simp at h
  | (g, d) :: ds, _, f, d', h, e => by
    obtain ⟨v, r, rfl, a, b⟩ := h
    rw [List.lookup_cons] at e
    rw [List.lookup_cons, ofString_beq]
    cases hb : f == g with
    | true => rw [hb] at e; simp at e; subst e; exact ⟨v, rfl, a⟩
    | false => rw [hb] at e; exact RepF.look b e
theorem RepF.none : ∀ {ds : List (String × D)} {vs : List (Str × V)} {f : String}, RepF K w ds vs → ds.lookup f = Option.none → vs.lookup (PySem.Str.ofString f) = Option.none
  | [], _, _, h, _ => by
    have q : _ = [] := h
    subst q; rfl
  | (g, d) :: ds, _, f, h, e => by
    obtain ⟨v, r, rfl, a, b⟩ := h
    rw [List.lookup_cons] at e
    rw [List.lookup_cons, ofString_beq]
    cases hb : f == g with
    | true => rw [hb] at e; simp at e
    | false => rw [hb] at e; exact RepF.none b e
theorem RepF.length : ∀ {ds : List (String × D)} {vs : List (Str × V)}, RepF K w ds vs → vs.length = ds.length
  | [], _, h => by
    have e : _ = [] := h
    subst e; rfl
  | (f, d) :: ds, _, h => by
    obtain ⟨v, r, e, a, b⟩ := h
    subst e
    rw [List.length_cons, List.length_cons, RepF.length b]
def putD (f : String) (v : D) : List (String × D) → List (String × D)
  | [] => [(f, v)]
  | (g, x) :: r => if g = f then (g, v) :: r else (g, x) :: putD f v r
theorem RepF.put {f : String} {d : D} {v : V} (g : Rep K w d v) : ∀ {ds : List (String × D)} {vs : List (Str × V)}, RepF K w ds vs → RepF K w (putD f d ds) (putF (PySem.Str.ofString f) v vs)
  | [], _, h => by
    have q : _ = [] := h
    subst q; exact ⟨v, [], rfl, g, rfl⟩
  | (k, d') :: ds, _, h => by
    obtain ⟨u, r, rfl, a, b⟩ := h
    unfold putD putF
    by_cases e : k = f
    · rw [if_pos e, if_pos (ofString_inj.mpr e)]; exact ⟨v, r, by rw [e], g, b⟩
    · rw [if_neg e, if_neg (fun z => e (ofString_inj.mp z))]; exact ⟨u, _, rfl, a, RepF.put g b⟩
end

def ORep (K : PySem.W.Frag) (w : Wd) (H : Hp) (a : Addr) : MO → Prop
  | .lst ds => ∃ xs, H a = some (.lst xs) ∧ RepAll K w ds xs
  | .ins C fs => ∃ dx vs, H a = some (.ins (kcl K C) dx vs) ∧ RepF K w fs vs
  | .dead => ∃ o, H a = some o
theorem ORep.mono {K : PySem.W.Frag} {w w' : Wd} {H H' : Hp} {a : Addr} (l : w.le w') (e : H' a = H a) : ∀ {o : MO}, ORep K w H a o → ORep K w' H' a o
  | .lst ds, h => by
    obtain ⟨xs, q, r⟩ := h
    exact ⟨xs, e.trans q, RepAll.mono l _ _ r⟩
  | .ins C fs, h => by
    obtain ⟨dx, vs, q, r⟩ := h
    exact ⟨dx, vs, e.trans q, RepF.mono l _ _ r⟩
  | .dead, h => by
    obtain ⟨o, q⟩ := h
    exact ⟨o, e.trans q⟩
theorem ORep.there {K : PySem.W.Frag} {w : Wd} {H : Hp} {a : Addr} : ∀ {o : MO}, ORep K w H a o → ∃ o, H a = Option.some o
  | .lst _, ⟨_, q, _⟩ => ⟨_, q⟩
  | .ins _ _, ⟨_, _, q, _⟩ => ⟨_, q⟩
  | .dead, h => h
/-- the heap bears the world and the store -/
structure HRep (K : PySem.W.Frag) (w : Wd) (m : MM) (H : Hp) : Prop where
  ext : ∀ a o, w.F a = some o → H a = some o
  len : w.th.length = m.M.length
  nd : w.th.Nodup
  obj : ∀ (k : Nat) a o, w.th[k]? = some a → m.M[k]? = some o → ORep K w H a o
  thF : ∀ (k : Nat) a o, w.th[k]? = some a → m.M[k]? = some o → o ≠ .dead → w.F a = none
  ls : m.s = 1 → ∀ S, w.S = some S → S.ok H ∧ ∀ a ∈ S.fp, w.F a = none ∧ a ∉ w.th ∧ ∃ o, H a = some o
  flag : (m.s = 0 → w.S = none) ∧ (m.s = 1 → w.S.isSome = true)

abbrev Env := List (Option D)
abbrev XP := String → List (String × D) → MM → Prop
abbrev DE := Env → MM → (D → MM → Prop) → XP → Prop
abbrev DA := Env → MM → (List D → MM → Prop) → XP → Prop
abbrev DT := Env → MM → (Bool → MM → Prop) → XP → Prop
structure DN where
  nx : Env → MM → Prop
  rt : D → MM → Prop
  bk : Env → MM → Prop := fun _ _ => False
  ct : Env → MM → Prop := fun _ _ => False
def Slots (K : PySem.W.Frag) (w : Wd) (σ : St) (ρ : Env) : Prop := σ.length = ρ.length ∧ ∀ (i : Nat) d, ρ[i]? = some (some d) → ∃ v, σ[i]? = some (some v) ∧ Rep K w d v
theorem Slots.mono {K : PySem.W.Frag} {w w' : Wd} {σ : St} {ρ : Env} (l : w.le w') (h : Slots K w σ ρ) : Slots K w' σ ρ := ⟨h.1, fun i d e => let ⟨v, a, b⟩ := h.2 i d e; ⟨v, a, Rep.mono l _ _ b⟩⟩
theorem Slots.set {K : PySem.W.Frag} {w : Wd} {σ : St} {ρ : Env} {d : D} {v : V} (i : Nat) (h : Slots K w σ ρ) (r : Rep K w d v) : Slots K w (σ.set i (some v)) (ρ.set i (some d)) := by
  refine ⟨by rw [List.length_set, List.length_set]; exact h.1, fun j d' e => ?_⟩
  by_cases hj : i = j
  · subst hj
    have hl : i < ρ.length := by
      rcases Nat.lt_or_ge i ρ.length with q | q
      · exact q
      · rw [List.getElem?_eq_none (by simpa using q)] at e; cases e
    rw [List.getElem?_set_self hl] at e
    cases e
    exact ⟨v, by rw [List.getElem?_set_self (by rw [h.1]; exact hl)], r⟩
  · rw [List.getElem?_set_ne hj] at e
    obtain ⟨u, a, b⟩ := h.2 j d' e
    exact ⟨u, by rw [List.getElem?_set_ne hj]; exact a, b⟩
theorem Slots.wipe {K : PySem.W.Frag} {w : Wd} {σ : St} {ρ : Env} (h : Slots K w σ ρ) (i : Nat) : Slots K w (σ.set i none) (ρ.set i none) := by
  refine ⟨by rw [List.length_set, List.length_set]; exact h.1, fun j d' e => ?_⟩
  by_cases hj : i = j
  · subst hj
    by_cases hl : i < ρ.length
    · rw [List.getElem?_set_self hl] at e; cases e
    · rw [List.getElem?_eq_none (by simpa using hl)] at e; cases e
  · rw [List.getElem?_set_ne hj] at e
    obtain ⟨u, a, b⟩ := h.2 j d' e
    exact ⟨u, by rw [List.getElem?_set_ne hj]; exact a, b⟩

def XLift (K : PySem.W.Frag) (w : Wd) (E : WX) (σ : St) (Ψ : XP) : Prop := ∀ C fs m' w' H' d xs, w.le w' → HRep K w' m' H' → w'.F d = some (.xd xs) → RepF K w' fs xs → Ψ C fs m' → E (.ref (kcl K C)) (some d) σ H'
theorem XLift.mono {K : PySem.W.Frag} {w w' : Wd} {E : WX} {σ : St} {Ψ : XP} (l : w.le w') (h : XLift K w E σ Ψ) : XLift K w' E σ Ψ := fun C fs m' w2 H' d xs l2 a b c q => h C fs m' w2 H' d xs (l.trans l2) a b c q
def VLift (K : PySem.W.Frag) (w : Wd) (Q : VK) (Φ : D → MM → Prop) : Prop := ∀ d m' w' H' v, w.le w' → HRep K w' m' H' → Rep K w' d v → Φ d m' → Q v H'
theorem VLift.mono {K : PySem.W.Frag} {w w' : Wd} {Q : VK} {Φ : D → MM → Prop} (l : w.le w') (h : VLift K w Q Φ) : VLift K w' Q Φ := fun d m' w2 H' v l2 a b c => h d m' w2 H' v (l.trans l2) a b c
def SLift (K : PySem.W.Frag) (w : Wd) (Q : St → Hp → Prop) (Φ : Env → MM → Prop) : Prop := ∀ ρ m' w' H' σ, w.le w' → HRep K w' m' H' → Slots K w' σ ρ → Φ ρ m' → Q σ H'
theorem SLift.mono {K : PySem.W.Frag} {w w' : Wd} {Q : St → Hp → Prop} {Φ : Env → MM → Prop} (l : w.le w') (h : SLift K w Q Φ) : SLift K w' Q Φ := fun d m' w2 H' v l2 a b c => h d m' w2 H' v (l.trans l2) a b c
structure NLift (K : PySem.W.Frag) (w : Wd) (D : Ends) (N : DN) : Prop where
  nx : SLift K w D.nx N.nx
  rt : VLift K w D.rt N.rt
  bk : SLift K w D.bk N.bk
  ct : SLift K w D.ct N.ct
theorem NLift.mono {K : PySem.W.Frag} {w w' : Wd} {D : Ends} {N : DN} (l : w.le w') (h : NLift K w D N) : NLift K w' D N := ⟨h.nx.mono l, h.rt.mono l, h.bk.mono l, h.ct.mono l⟩

abbrev XS := Env → XP
def SX (K : PySem.W.Frag) (w : Wd) (E : WX) (Ψ : XS) : Prop := ∀ ρ σ w1, w.le w1 → Slots K w1 σ ρ → XLift K w1 E σ (Ψ ρ)
theorem SX.mono {K : PySem.W.Frag} {w w' : Wd} {E : WX} {Ψ : XS} (l : w.le w') (h : SX K w E Ψ) : SX K w' E Ψ := fun ρ σ w1 l1 s => h ρ σ w1 (l.trans l1) s
structure At (K : PySem.W.Frag) (E : WX) (w : Wd) (σ : St) (H : Hp) (ρ : Env) (m : MM) (Ψ : XP) : Prop where
  h : HRep K w m H
  s : Slots K w σ ρ
  x : XLift K w E σ Ψ
theorem At.to {K : PySem.W.Frag} {E : WX} {w w' : Wd} {σ : St} {H H' : Hp} {ρ : Env} {m m' : MM} {Ψ : XP} (a : At K E w σ H ρ m Ψ) (l : w.le w') (h : HRep K w' m' H') : At K E w' σ H' ρ m' Ψ := ⟨h, a.s.mono l, a.x.mono l⟩
structure AtS (K : PySem.W.Frag) (E : WX) (w : Wd) (σ : St) (H : Hp) (ρ : Env) (m : MM) (Ψ : XS) : Prop where
  h : HRep K w m H
  s : Slots K w σ ρ
  x : SX K w E Ψ
theorem AtS.to {K : PySem.W.Frag} {E : WX} {w w' : Wd} {σ : St} {H H' : Hp} {ρ : Env} {m m' : MM} {Ψ : XS} (a : AtS K E w σ H ρ m Ψ) (l : w.le w') (h : HRep K w' m' H') : AtS K E w' σ H' ρ m' Ψ := ⟨h, a.s.mono l, a.x.mono l⟩
theorem AtS.at {K : PySem.W.Frag} {E : WX} {w : Wd} {σ : St} {H : Hp} {ρ : Env} {m : MM} {Ψ : XS} (a : AtS K E w σ H ρ m Ψ) : At K E w σ H ρ m (Ψ ρ) := ⟨a.h, a.s, a.x ρ σ w (Wd.le.refl w) a.s⟩
abbrev DS := DN → XS → Env → MM → Prop
def lift (K : PySem.W.Frag) (E : WX) (W : DE) : TE := fun σ H Q => ∃ w ρ m Ψ Φ, At K E w σ H ρ m Ψ ∧ VLift K w Q Φ ∧ W ρ m Φ Ψ
def liftA (K : PySem.W.Frag) (E : WX) (W : DA) : TA := fun σ H Q => ∃ w ρ m Ψ Φ, At K E w σ H ρ m Ψ ∧ (∀ ds m' w' H' vs, w.le w' → HRep K w' m' H' → RepAll K w' ds vs → Φ ds m' → Q vs H') ∧ W ρ m Φ Ψ
def liftT (K : PySem.W.Frag) (E : WX) (W : DT) : TT := fun σ H Q => ∃ w ρ m Ψ Φ, At K E w σ H ρ m Ψ ∧ (∀ b m' w' H', w.le w' → HRep K w' m' H' → Φ b m' → Q b H') ∧ W ρ m Φ Ψ
def liftS (K : PySem.W.Frag) (E : WX) (W : DS) : TS := fun D σ H => ∃ w ρ m Ψ N, AtS K E w σ H ρ m Ψ ∧ NLift K w D N ∧ W N Ψ ρ m

/-! ### judgements -/
abbrev JE (X : Cx) (E : WX) (e : Expr) (W : DE) : Prop := PE X e (lift X.K E W)
abbrev JA (X : Cx) (E : WX) (es : List Expr) (W : DA) : Prop := PA X es (liftA X.K E W)
abbrev JT (X : Cx) (E : WX) (e : Expr) (W : DT) : Prop := PT X e (liftT X.K E W)
abbrev JW (X : Cx) (E : WX) (e : Expr) (W : DT) : Prop := PW X e (liftT X.K E W)
abbrev JS (X : Cx) (E : WX) (st : Stmt) (W : DS) : Prop := PS X st (liftS X.K E W)
abbrev JSs (X : Cx) (E : WX) (st : List Stmt) (W : DS) : Prop := PSs X st (liftS X.K E W)
theorem PE.imp {X : Cx} {e : Expr} {t t' : TE} (h : PE X e t) (i : ∀ σ H Q, t' σ H Q → t σ H Q) : PE X e t' := ⟨fun pins s σ H Q I q => h.run pins s σ H Q I (i σ H Q q)⟩
theorem PA.imp {X : Cx} {e : List Expr} {t t' : TA} (h : PA X e t) (i : ∀ σ H Q, t' σ H Q → t σ H Q) : PA X e t' := ⟨fun pos pins s σ H Q I q => h.run pos pins s σ H Q I (i σ H Q q)⟩
theorem PT.imp {X : Cx} {e : Expr} {t t' : TT} (h : PT X e t) (i : ∀ σ H Q, t' σ H Q → t σ H Q) : PT X e t' := ⟨fun pins s σ H Q I q => h.run pins s σ H Q I (i σ H Q q)⟩
theorem PW.imp {X : Cx} {e : Expr} {t t' : TT} (h : PW X e t) (i : ∀ σ H Q, t' σ H Q → t σ H Q) : PW X e t' := ⟨fun wh pins s σ H Q I q => h.run wh pins s σ H Q I (i σ H Q q)⟩
theorem PS.imp {X : Cx} {e : Stmt} {t t' : TS} (h : PS X e t) (i : ∀ D σ H, t' D σ H → t D σ H) : PS X e t' := ⟨fun pins s σ H D I q => h.run pins s σ H D I (i D σ H q)⟩
theorem PSs.imp {X : Cx} {e : List Stmt} {t t' : TS} (h : PSs X e t) (i : ∀ D σ H, t' D σ H → t D σ H) : PSs X e t' := ⟨fun pins s σ H D I q => h.run pins s σ H D I (i D σ H q)⟩
end Dl

namespace Dl
open PySem L2
section
variable {K : PySem.W.Frag} {w w' : Wd} {m m' : MM} {H H' : Hp} {p a : Addr} {ho : HO} {k : Nat}

theorem ORep.ex (e : ∀ a o, H a = some o → H' a = some o) : ∀ {o : MO}, ORep K w H a o → ORep K w H' a o
  | .lst ds, ⟨xs, q, r⟩ => ⟨xs, e _ _ q, r⟩
  | .ins C fs, ⟨dx, vs, q, r⟩ => ⟨dx, vs, e _ _ q, r⟩
  | .dead, ⟨o, q⟩ => ⟨o, e _ _ q⟩
theorem HRep.ex (h : HRep K w m H) (e : ∀ a o, H a = some o → H' a = some o) : HRep K w m H' where
  ext := fun a o q => e a o (h.ext a o q)
  len := h.len
  nd := h.nd
  obj := fun k a o q1 q2 => (h.obj k a o q1 q2).ex e
  thF := h.thF
  ls := fun s1 S q => by
    obtain ⟨h1, h2⟩ := h.ls s1 S q
    refine ⟨S.fr H H' (fun a ha => ?_) h1, fun a ha => ?_⟩
    · obtain ⟨_, _, o, ho⟩ := h2 a ha
      rw [ho, e a o ho]
    · obtain ⟨q1, q2, o, ho⟩ := h2 a ha
      exact ⟨q1, q2, o, e a o ho⟩
  flag := h.flag
theorem HRep.thO (h : HRep K w m H) {k : Nat} {a : Addr} (e : w.th[k]? = some a) : ∃ o, m.M[k]? = some o ∧ ORep K w H a o := by
  have hk : k < w.th.length := (List.getElem?_eq_some_iff.mp e).1
  rw [h.len] at hk
  exact ⟨m.M[k], List.getElem?_eq_getElem hk, h.obj k a _ e (List.getElem?_eq_getElem hk)⟩
theorem HRep.thH (h : HRep K w m H) {a : Addr} (e : a ∈ w.th) : ∃ o, H a = some o := by
  obtain ⟨k, hk, rfl⟩ := List.mem_iff_getElem.mp e
  obtain ⟨o, _, q⟩ := h.thO (List.getElem?_eq_getElem hk)
  exact q.there
theorem HRep.nof (h : HRep K w m H) (hp : H p = none) : w.F p = none := by
  cases q : w.F p with
  | none => rfl
  | some o => rw [h.ext p o q] at hp; cases hp
theorem HRep.not (h : HRep K w m H) (hp : H p = none) : p ∉ w.th := fun z => by
  obtain ⟨o, q⟩ := h.thH z
  rw [hp] at q; cases q

/-- a new frozen object -/
def Wd.put (w : Wd) (p : Addr) (ho : HO) : Wd := ⟨upd w.F p ho, w.th, w.S⟩
theorem Wd.le_put (h : w.F p = none) : w.le (w.put p ho) := ⟨fun a o e => by show upd w.F p ho a = some o; rw [upd_ne (ne_of_none e h)]; exact e, fun _ _ e => e, fun _ e => e⟩
theorem ex_new (hp : H p = none) : ∀ a o, H a = some o → upd H p ho a = some o := fun a o e => by rw [upd_ne (ne_of_none e hp)]; exact e
theorem HRep.put (h : HRep K w m H) (hp : H p = none) : HRep K (w.put p ho) m (upd H p ho) where
  ext := fun a o q => by
    have q : upd w.F p ho a = some o := q
    by_cases e : a = p
    · subst e; rw [upd_same] at q ⊢; exact q
    · rw [upd_ne e] at q ⊢; exact h.ext a o q
  len := h.len
  nd := h.nd
  obj := fun k a o q1 q2 => by
    have z := h.obj k a o q1 q2
    have ne : a ≠ p := fun e => h.not hp (by rw [← e]; exact List.mem_of_getElem? q1)
    exact z.mono (Wd.le_put (h.nof hp)) (upd_ne ne)
  thF := fun k a o q1 q2 q3 => by
    have ne : a ≠ p := fun e => h.not hp (by rw [← e]; exact List.mem_of_getElem? q1)
    show upd w.F p ho a = none
    rw [upd_ne ne]; exact h.thF k a o q1 q2 q3
  ls := fun s1 S q => by
    obtain ⟨h1, h2⟩ := h.ls s1 S q
    have ne : ∀ a ∈ S.fp, a ≠ p := fun a ha e => by
      obtain ⟨_, _, o, ho⟩ := h2 a ha
      rw [e, hp] at ho; cases ho
    refine ⟨S.fr H _ (fun a ha => upd_ne (ne a ha)) h1, fun a ha => ?_⟩
    obtain ⟨q1, q2, o, q3⟩ := h2 a ha
    refine ⟨?_, q2, o, by rw [upd_ne (ne a ha)]; exact q3⟩
    show upd w.F p ho a = none
    rw [upd_ne (ne a ha)]; exact q1
  flag := h.flag
theorem rep_put_lst {ds : List D} {xs : List V} (h : HRep K w m H) (hp : H p = none) (r : RepAll K w ds xs) : Rep K (w.put p (.lst xs)) (.lst ds) (.ref p) :=
  ⟨p, xs, rfl, upd_same, RepAll.mono (Wd.le_put (h.nof hp)) _ _ r⟩
theorem rep_put_tup {ds : List D} {xs : List V} (h : HRep K w m H) (hp : H p = none) (r : RepAll K w ds xs) : Rep K (w.put p (.tup xs)) (.tup ds) (.ref p) :=
  ⟨p, xs, rfl, upd_same, RepAll.mono (Wd.le_put (h.nof hp)) _ _ r⟩

/-- a new changing object -/
def Wd.add (w : Wd) (p : Addr) : Wd := ⟨w.F, w.th ++ [p], w.S⟩
def MM.push (m : MM) (o : MO) : MM := ⟨m.M ++ [o], m.s⟩
theorem Wd.le_add : w.le (w.add p) := ⟨fun _ _ e => e, fun k a e => by
  show (w.th ++ [p])[k]? = some a
  rw [List.getElem?_append_left (List.getElem?_eq_some_iff.mp e).1]; exact e, fun _ e => e⟩
theorem HRep.add {o : MO} (h : HRep K w m H) (hp : H p = none) (ob : ORep K (w.add p) (upd H p ho) p o) : HRep K (w.add p) (m.push o) (upd H p ho) where
  ext := fun a o q => ex_new hp a o (h.ext a o q)
  len := by show (w.th ++ [p]).length = (m.M ++ [o]).length; rw [List.length_append, List.length_append, h.len]; rfl
  nd := by
    show (w.th ++ [p]).Nodup
    rw [List.nodup_append]
    refine ⟨h.nd, by simp, fun a ha b hb e => ?_⟩
    have e2 : b = p := by simpa using hb
    subst e2; subst e
    exact h.not hp ha
  obj := fun k a o' q1 q2 => by
    have q1 : (w.th ++ [p])[k]? = some a := q1
    have q2 : (m.M ++ [o])[k]? = some o' := q2
    rcases Nat.lt_or_ge k w.th.length with hk | hk
    · rw [List.getElem?_append_left hk] at q1
      rw [List.getElem?_append_left (by rw [← h.len]; exact hk)] at q2
      have ne : a ≠ p := fun e => h.not hp (by rw [← e]; exact List.mem_of_getElem? q1)
      exact (h.obj k a o' q1 q2).mono Wd.le_add (upd_ne ne)
    · rw [List.getElem?_append_right hk] at q1
      rw [List.getElem?_append_right (by rw [← h.len]; exact hk)] at q2
      have hk2 : k = w.th.length := by
        have z := (List.getElem?_eq_some_iff.mp q1).1
        simp at z; omega
      subst hk2
      rw [Nat.sub_self] at q1
      rw [h.len, Nat.sub_self] at q2
      simp at q1 q2
      subst q1; subst q2
      exact ob
  thF := fun k a o' q1 q2 q3 => by
    have q1 : (w.th ++ [p])[k]? = some a := q1
    have q2 : (m.M ++ [o])[k]? = some o' := q2
    show w.F a = none
    rcases Nat.lt_or_ge k w.th.length with hk | hk
    · rw [List.getElem?_append_left hk] at q1
      rw [List.getElem?_append_left (by rw [← h.len]; exact hk)] at q2
      exact h.thF k a o' q1 q2 q3
    · rw [List.getElem?_append_right hk] at q1
      have z : a ∈ [p] := List.mem_of_getElem? q1
      have e : a = p := by simpa using z
      rw [e]; exact h.nof hp
  ls := fun s1 S q => by
    obtain ⟨h1, h2⟩ := h.ls s1 S q
    have ne : ∀ a ∈ S.fp, a ≠ p := fun a ha e => by
      obtain ⟨_, _, o, ho⟩ := h2 a ha
      rw [e, hp] at ho; cases ho
    refine ⟨S.fr H _ (fun a ha => upd_ne (ne a ha)) h1, fun a ha => ?_⟩
    obtain ⟨q1, q2, o, q3⟩ := h2 a ha
    refine ⟨q1, ?_, o, by rw [upd_ne (ne a ha)]; exact q3⟩
    show a ∉ w.th ++ [p]
    simp only [List.mem_append, List.mem_singleton, not_or]
    exact ⟨q2, ne a ha⟩
  flag := h.flag
theorem rep_add (h : HRep K w m H) : Rep K (w.add p) (.hnd m.M.length) (.ref p) := ⟨p, rfl, by
  show (w.th ++ [p])[m.M.length]? = some p
  rw [← h.len, List.getElem?_append_right (Nat.le_refl _)]; simp⟩

/-- a changing object is written -/
theorem HRep.wr {o o' : MO} (h : HRep K w m H) (e : w.th[k]? = some a) (eo : m.M[k]? = some o) (hd : o ≠ .dead) (ob : ORep K w (upd H a ho) a o') : HRep K w ⟨m.M.set k o', m.s⟩ (upd H a ho) where
  ext := fun b u q => by
    have ne : b ≠ a := fun z => by rw [z, h.thF k a o e eo hd] at q; cases q
    rw [upd_ne ne]; exact h.ext b u q
  len := by show w.th.length = (m.M.set k o').length; rw [List.length_set]; exact h.len
  nd := h.nd
  obj := fun j b u q1 q2 => by
    have q2 : (m.M.set k o')[j]? = some u := q2
    by_cases hj : k = j
    · subst hj
      rw [e] at q1; cases q1
      rw [List.getElem?_set_self (List.getElem?_eq_some_iff.mp eo).1] at q2
      cases q2; exact ob
    · rw [List.getElem?_set_ne hj] at q2
      have ne : b ≠ a := fun z => hj (by
        subst z
        obtain ⟨k1, k2⟩ := List.getElem?_eq_some_iff.mp e
        obtain ⟨j1, j2⟩ := List.getElem?_eq_some_iff.mp q1
        exact (List.getElem_inj h.nd).mp (k2.trans j2.symm))
      exact (h.obj j b u q1 q2).mono (Wd.le.refl w) (upd_ne ne)
  thF := fun j b u q1 q2 q3 => by
    have q2 : (m.M.set k o')[j]? = some u := q2
    by_cases hj : k = j
    · subst hj
      rw [e] at q1; cases q1
      exact h.thF k a o e eo hd
    · rw [List.getElem?_set_ne hj] at q2
      exact h.thF j b u q1 q2 q3
  ls := fun s1 S q => by
    obtain ⟨h1, h2⟩ := h.ls s1 S q
    have ne : ∀ b ∈ S.fp, b ≠ a := fun b hb z => (h2 b hb).2.1 (by rw [z]; exact List.mem_of_getElem? e)
    refine ⟨S.fr H _ (fun b hb => upd_ne (ne b hb)) h1, fun b hb => ?_⟩
    obtain ⟨q1, q2, o, q3⟩ := h2 b hb
    exact ⟨q1, q2, o, by rw [upd_ne (ne b hb)]; exact q3⟩
  flag := h.flag
/-- a changing list is frozen -/
theorem HRep.frz {ds : List D} (h : HRep K w m H) (e : w.th[k]? = some a) (eo : m.M[k]? = some (.lst ds)) : ∃ xs, w.F a = none ∧ H a = some (.lst xs) ∧ RepAll K w ds xs ∧ HRep K (w.put a (.lst xs)) ⟨m.M.set k .dead, m.s⟩ H := by
  obtain ⟨xs, hx, r⟩ := h.obj k a _ e eo
  have fa := h.thF k a _ e eo (fun z => by cases z)
  refine ⟨xs, fa, hx, r, ?_⟩
  have le := Wd.le_put (ho := .lst xs) fa
  have nea : ∀ {j : Nat} {b : Addr}, w.th[j]? = some b → b = a → k = j := fun {j b} q1 z => by
    subst z
    obtain ⟨k1, k2⟩ := List.getElem?_eq_some_iff.mp e
    obtain ⟨j1, j2⟩ := List.getElem?_eq_some_iff.mp q1
    exact (List.getElem_inj h.nd).mp (k2.trans j2.symm)
  exact {
    ext := fun b u q => by
      have q : upd w.F a (.lst xs) b = some u := q
      by_cases z : b = a
      · subst z; rw [upd_same] at q; cases q; exact hx
      · rw [upd_ne z] at q; exact h.ext b u q
    len := by show w.th.length = (m.M.set k .dead).length; rw [List.length_set]; exact h.len
    nd := h.nd
    obj := fun j b u q1 q2 => by
      have q2 : (m.M.set k .dead)[j]? = some u := q2
      by_cases hj : k = j
      · subst hj
        have q1 : w.th[k]? = some b := q1
        rw [e] at q1; cases q1
        rw [List.getElem?_set_self (List.getElem?_eq_some_iff.mp eo).1] at q2
        cases q2; exact ⟨_, hx⟩
      · rw [List.getElem?_set_ne hj] at q2
        exact (h.obj j b u q1 q2).mono le rfl
    thF := fun j b u q1 q2 q3 => by
      have q2 : (m.M.set k .dead)[j]? = some u := q2
      have q1 : w.th[j]? = some b := q1
      by_cases hj : k = j
      · subst hj
        rw [List.getElem?_set_self (List.getElem?_eq_some_iff.mp eo).1] at q2
        cases q2; exact absurd rfl q3
      · rw [List.getElem?_set_ne hj] at q2
        show upd w.F a (.lst xs) b = none
        rw [upd_ne (fun z => hj (nea q1 z))]
        exact h.thF j b u q1 q2 q3
    ls := fun s1 S q => by
      obtain ⟨h1, h2⟩ := h.ls s1 S q
      refine ⟨h1, fun b hb => ?_⟩
      obtain ⟨q1, q2, o, q3⟩ := h2 b hb
      refine ⟨?_, q2, o, q3⟩
      show upd w.F a (.lst xs) b = none
      rw [upd_ne (fun z => q2 (by rw [z]; exact List.mem_of_getElem? e))]; exact q1
    flag := h.flag }
/-- the last objects are let go -/
def Wd.cut (w : Wd) (n : Nat) : Wd := ⟨w.F, w.th.take n, w.S⟩
def MM.cut (m : MM) (n : Nat) : MM := ⟨m.M.take n, m.s⟩
mutual
def clD (n : Nat) : D → Bool
  | .hnd k => decide (k < n)
  | .lst ds => clAll n ds
  | .tup ds => clAll n ds
  | .rol ds => clAll n ds
  | .rot ds => clAll n ds
  | .exc _ _ _ fs => clF n fs
  | _ => true
def clAll (n : Nat) : List D → Bool
  | [] => true
  | d :: ds => clD n d && clAll n ds
def clF (n : Nat) : List (String × D) → Bool
  | [] => true
  | (_, d) :: ds => clD n d && clF n ds
end
def clO (n : Nat) : MO → Bool
  | .lst ds => clAll n ds
  | .ins _ fs => clF n fs
  | .dead => true
mutual
theorem Rep.cl : ∀ (d : D) (v : V), Rep K w d v → clD w.th.length d = true
  | .non, _, _ => rfl
  | .bl _, _, _ => rfl
  | .int _, _, _ => rfl
  | .str _, _, _ => rfl
  | .ty _, _, _ => rfl
  | .cls _, _, _ => rfl
  | .st _, _, _ => rfl
  | .lst ds, _, ⟨_, xs, _, _, r⟩ => RepAll.cl ds xs r
  | .tup ds, _, ⟨_, xs, _, _, r⟩ => RepAll.cl ds xs r
  | .rol ds, _, ⟨_, xs, _, _, r⟩ => RepAll.cl ds xs r
  | .rot ds, _, ⟨_, xs, _, _, r⟩ => RepAll.cl ds xs r
  | .exc _ _ _ fs, _, ⟨_, xs, _, r⟩ => RepF.cl fs xs r
  | .hnd k, _, ⟨a, _, q⟩ => by
    show decide (k < w.th.length) = true
    exact decide_eq_true (List.getElem?_eq_some_iff.mp q).1
theorem RepAll.cl : ∀ (ds : List D) (vs : List V), RepAll K w ds vs → clAll w.th.length ds = true
  | [], _, _ => rfl
  | d :: ds, _, ⟨v, r, _, a, b⟩ => by
    show (clD _ d && clAll _ ds) = true
    rw [Rep.cl d v a, RepAll.cl ds r b]; rfl
theorem RepF.cl : ∀ (ds : List (String × D)) (vs : List (Str × V)), RepF K w ds vs → clF w.th.length ds = true
  | [], _, _ => rfl
  | (f, d) :: ds, _, ⟨v, r, _, a, b⟩ => by
    show (clD _ d && clF _ ds) = true
    rw [Rep.cl d v a, RepF.cl ds r b]; rfl
end
mutual
theorem Rep.cut {n : Nat} : ∀ (d : D) (v : V), Rep K w d v → clD n d = true → Rep K (w.cut n) d v
  | .non, _, h, _ => h
  | .bl _, _, h, _ => h
  | .int _, _, h, _ => h
  | .str _, _, h, _ => h
  | .ty _, _, h, _ => h
  | .cls _, _, h, _ => h
  | .st _, _, h, _ => h
  | .lst ds, _, ⟨a, xs, e, q, r⟩, c => ⟨a, xs, e, q, RepAll.cut ds xs r c⟩
  | .tup ds, _, ⟨a, xs, e, q, r⟩, c => ⟨a, xs, e, q, RepAll.cut ds xs r c⟩
  | .rol ds, _, ⟨a, xs, e, q, r⟩, c => ⟨a, xs, e, q, RepAll.cut ds xs r c⟩
  | .rot ds, _, ⟨a, xs, e, q, r⟩, c => ⟨a, xs, e, q, RepAll.cut ds xs r c⟩
  | .exc _ _ _ fs, _, ⟨e, xs, q, r⟩, c => ⟨e, xs, q, RepF.cut fs xs r c⟩
  | .hnd k, _, ⟨a, e, q⟩, c => ⟨a, e, by
    have c : decide (k < n) = true := c
    have c := of_decide_eq_true c
    show (w.th.take n)[k]? = some a
    rw [List.getElem?_take_of_lt c]; exact q⟩
theorem RepAll.cut {n : Nat} : ∀ (ds : List D) (vs : List V), RepAll K w ds vs → clAll n ds = true → RepAll K (w.cut n) ds vs
  | [], _, h, _ => h
  | d :: ds, _, ⟨v, r, e, a, b⟩, c => by
    have c : (clD n d && clAll n ds) = true := c
    rw [Bool.and_eq_true] at c
    exact ⟨v, r, e, Rep.cut d v a c.1, RepAll.cut ds r b c.2⟩
theorem RepF.cut {n : Nat} : ∀ (ds : List (String × D)) (vs : List (Str × V)), RepF K w ds vs → clF n ds = true → RepF K (w.cut n) ds vs
  | [], _, h, _ => h
  | (f, d) :: ds, _, ⟨v, r, e, a, b⟩, c => by
    have c : (clD n d && clF n ds) = true := c
    rw [Bool.and_eq_true] at c
    exact ⟨v, r, e, Rep.cut d v a c.1, RepF.cut ds r b c.2⟩
end
theorem ORep.cut {n : Nat} : ∀ {o : MO}, ORep K w H a o → clO n o = true → ORep K (w.cut n) H a o
  | .lst ds, ⟨xs, q, r⟩, c => ⟨xs, q, RepAll.cut ds xs r c⟩
  | .ins C fs, ⟨dx, vs, q, r⟩, c => ⟨dx, vs, q, RepF.cut fs vs r c⟩
  | .dead, h, _ => h
theorem ORep.cl : ∀ {o : MO}, ORep K w H a o → clO w.th.length o = true
  | .lst ds, ⟨xs, q, r⟩ => RepAll.cl ds xs r
  | .ins C fs, ⟨dx, vs, q, r⟩ => RepF.cl fs vs r
  | .dead, h => rfl
theorem HRep.cut {n : Nat} (h : HRep K w m H) (c : ∀ o ∈ m.M.take n, clO n o = true) : HRep K (w.cut n) (m.cut n) H where
  ext := h.ext
  len := by show (w.th.take n).length = (m.M.take n).length; rw [List.length_take, List.length_take, h.len]
  nd := h.nd.sublist (List.take_sublist _ _)
  obj := fun k a o q1 q2 => by
    have q1 : (w.th.take n)[k]? = some a := q1
    have q2 : (m.M.take n)[k]? = some o := q2
    have hk : k < n := by
      have z := (List.getElem?_eq_some_iff.mp q1).1
      rw [List.length_take] at z; omega
    have cc := c o (List.mem_of_getElem? q2)
    rw [List.getElem?_take_of_lt hk] at q1 q2
    exact (h.obj k a o q1 q2).cut cc
  thF := fun k a o q1 q2 q3 => by
    have q1 : (w.th.take n)[k]? = some a := q1
    have q2 : (m.M.take n)[k]? = some o := q2
    have hk : k < n := by
      have z := (List.getElem?_eq_some_iff.mp q1).1
      rw [List.length_take] at z; omega
    rw [List.getElem?_take_of_lt hk] at q1 q2
    exact h.thF k a o q1 q2 q3
  ls := fun s1 S q => by
    obtain ⟨h1, h2⟩ := h.ls s1 S q
    exact ⟨h1, fun a ha => ⟨(h2 a ha).1, fun z => (h2 a ha).2.1 (List.mem_of_mem_take z), (h2 a ha).2.2⟩⟩
  flag := h.flag
/-- objects as they were at an entry bear no later handles -/
theorem HRep.cls (h : HRep K w m H) : ∀ o ∈ m.M, clO m.M.length o = true := fun o ho => by
  obtain ⟨k, hk, rfl⟩ := List.mem_iff_getElem.mp ho
  have hk2 : k < w.th.length := by rw [h.len]; exact hk
  have z := (h.obj k _ _ (List.getElem?_eq_getElem hk2) (List.getElem?_eq_getElem hk)).cl
  rw [h.len] at z; exact z
theorem Wd.le_cut {w0 : Wd} {n : Nat} (l : w0.le w) (hn : w0.th.length ≤ n) : w0.le (w.cut n) := ⟨l.F, fun k a e => by
  show (w.th.take n)[k]? = some a
  rw [List.getElem?_take_of_lt (Nat.lt_of_lt_of_le (List.getElem?_eq_some_iff.mp e).1 hn)]; exact l.th k a e, l.S⟩
end
end Dl

namespace Dl
open PySem L2 PyProof.Rows

/-! ### expressions -/
def dVar (i : Nat) : DE := fun ρ m Φ _ => match ρ[i]? with
  | some (some d) => Φ d m
  | _ => False
def dC (d : D) : DE := fun _ m Φ _ => Φ d m
section
variable {X : Cx} {E : WX} {a b c : Expr} {Wa Wb Wc : DE} {pos : Pos}
theorem je_var (i : Nat) {x : Str} {pos : Pos} (hN : X.N[i]? = some x := by rfl) (hv : Vis X.env.scope x := by first | exact Or.inl rfl | exact Or.inr (Or.inl rfl) | exact Or.inr (Or.inr rfl)) (hd : (x == ("__debug__" : Str)) = false := by decide)
    (hcd : (x == ("__classdict__" : Str)) = false := by decide) : JE X E (.Name x pos) (dVar i) := PE.imp (pe_var hN hv hd hcd) fun σ H Q ⟨w, ρ, m, Ψ, Φ, a, vl, h⟩ => by
  unfold dVar at h
  split at h
  · rename_i d e
    obtain ⟨v, e1, r⟩ := a.s.2 i d e
    exact ⟨v, e1, vl d m w H v (.refl w) a.h r h⟩
  · exact h.elim
theorem je_of {e : Expr} {v : V} {d : D} (h : PE X e (tC v)) (r : ∀ w, Rep X.K w d v) : JE X E e (dC d) := PE.imp h fun σ H Q ⟨w, ρ, m, Ψ, Φ, a, vl, h⟩ => vl d m w H v (.refl w) a.h (r w) h
theorem je_int {i j pos} : JE X E (.Constant (.int i) j pos) (dC (.int i)) := je_of pe_int fun _ => rfl
theorem je_bl {b j pos} : JE X E (.Constant (.bool b) j pos) (dC (.bl b)) := je_of pe_bl fun _ => rfl
theorem je_str {x j pos} : JE X E (.Constant (.str x) j pos) (dC (.str x)) := je_of pe_str fun _ => rfl
/-- a constant of the module that is an int -/
theorem je_globI {x : Str} {i : Int} {t : Tok} {pos : Pos} (hg : Gl X x) (hm : X.mg x = some (.int i t)) (hd : (x == ("__debug__" : Str)) = false := by decide) : JE X E (.Name x pos) (dC (.int i)) := je_of (v := .int i) (pe_glob hg hm ⟨_, rfl⟩ hd) fun _ => rfl

/-- an operation on values, lifted -/
abbrev DO := D → D → MM → (D → MM → Prop) → Prop
def OpL (K : PySem.W.Frag) (r : R2) (o : DO) : Prop := ∀ w m H x y u v Q Φ, HRep K w m H → Rep K w x u → Rep K w y v → VLift K w Q Φ → o x y m Φ → r u v H Q
def dOp (o : DO) (a b : DE) : DE := fun ρ m Φ Ψ => a ρ m (fun x m1 => b ρ m1 (fun y m2 => o x y m2 Φ) Ψ) Ψ
theorem dOp_ok {r : R2} {o : DO} (hl : OpL X.K r o) {σ : L2.St} {H : Hp} {Q : VK} (h : lift X.K E (dOp o Wa Wb) σ H Q) : tOp r (lift X.K E Wa) (lift X.K E Wb) σ H Q := by
  obtain ⟨w, ρ, m, Ψ, Φ, a, vl, h⟩ := h
  refine ⟨w, ρ, m, Ψ, _, a, fun x m1 w1 H1 u l1 h1 r1 q1 => ?_, h⟩
  refine ⟨w1, ρ, m1, Ψ, _, a.to l1 h1, fun y m2 w2 H2 v l2 h2 r2 q2 => ?_, q1⟩
  exact hl w2 m2 H2 x y u v Q Φ h2 (Rep.mono l2 _ _ r1) r2 (vl.mono (l1.trans l2)) q2
theorem je_op {op : Operator} {r : R2} {o : DO} (ho : OpR X (binaryOp op) r) (hl : OpL X.K r o) (ha : JE X E a Wa) (hb : JE X E b Wb) : JE X E (.BinOp a op b pos) (dOp o Wa Wb) := PE.imp (pe_op ho ha hb) fun _ _ _ h => dOp_ok hl h
theorem je_cmp {op : CmpOp} {r : R2} {o : DO} (ho : OpR X (compareOp op) r) (hl : OpL X.K r o) (ha : JE X E a Wa) (hb : JE X E b Wb) (hm : behindInMarks op b = false) : JE X E (.Compare a [op] [b] pos) (dOp o Wa Wb) := PE.imp (pe_cmpR ho ha hb hm) fun _ _ _ h => dOp_ok hl h
/-- a value that is True or False, as a test -/
def dB (W : DE) : DT := fun ρ m Φ Ψ => W ρ m (fun d m1 => match d with
  | .bl b => Φ b m1
  | _ => False) Ψ
theorem dB_ok {t : TE} {W : DE} (ht : ∀ σ H Q, lift X.K E W σ H Q → t σ H Q) {σ : L2.St} {H : Hp} {Q : Bool → Hp → Prop} (h : liftT X.K E (dB W) σ H Q) : tTest t σ H Q := by
  obtain ⟨w, ρ, m, Ψ, Φ, a, vl, h⟩ := h
  refine ht σ H _ ⟨w, ρ, m, Ψ, _, a, fun d m1 w1 H1 v l1 h1 r1 q1 => ?_, h⟩
  cases d with
  | bl b => exact ⟨b, r1, vl b m1 w1 H1 l1 h1 q1⟩
  | _ => exact False.elim q1
theorem jt_cmp {op : CmpOp} {r : R2} {o : DO} (ho : OpR X (compareOp op) r) (hl : OpL X.K r o) (ha : JE X E a Wa) (hb : JE X E b Wb) (hm : behindInMarks op b = false) : JT X E (.Compare a [op] [b] pos) (dB (dOp o Wa Wb)) :=
  PT.imp (pt_cmpR ho ha hb hm) fun _ _ _ h => dB_ok (fun _ _ _ h => dOp_ok hl h) h
theorem jt_val {e : Expr} {W : DE} (h : JE X E e W) (he : ∀ whole, isTrue e X.env whole = (do let v ← whole; standAt e.pos; holding [v] (truthy v)) := by intro _; rfl) : JT X E e (dB W) :=
  PT.imp (pt_val h he) fun _ _ _ h => dB_ok (t := lift X.K E W) (fun _ _ _ h => h) h
/-- a op1 b op2 c -/
def dChain (o o' : DO) (a b c : DE) : DE := fun ρ m Φ Ψ => a ρ m (fun x m1 => b ρ m1 (fun y m2 => o x y m2 (fun z m3 => match z with
  | .bl k => if k = true then c ρ m3 (fun u m4 => o' y u m4 Φ) Ψ else Φ (.bl false) m3
  | _ => False)) Ψ) Ψ
/-- one-place operations -/
abbrev DO1 := D → MM → (D → MM → Prop) → Prop
def dUn (o : DO1) (a : DE) : DE := fun ρ m Φ Ψ => a ρ m (fun x m1 => o x m1 Φ) Ψ
def UnL (K : PySem.W.Frag) (r : V → Hp → VK → Prop) (o : DO1) : Prop := ∀ w m H x u Q Φ, HRep K w m H → Rep K w x u → VLift K w Q Φ → o x m Φ → r u H Q
theorem je_un {op : UnaryOp} {r : V → Hp → VK → Prop} {o : DO1} (ho : UnR X (unaryOp op) r) (hl : UnL X.K r o) (ha : JE X E a Wa) : JE X E (.UnaryOp op a pos) (dUn o Wa) := PE.imp (pe_un ho ha) fun σ H Q ⟨w, ρ, m, Ψ, Φ, a, vl, h⟩ =>
  ⟨w, ρ, m, Ψ, _, a, fun x m1 w1 H1 u l1 h1 r1 q1 => hl w1 m1 H1 x u Q Φ h1 r1 (vl.mono l1) q1, h⟩

/-! ### tests -/
variable {tA tB' : DT} {rest : List Expr}
def dAnd (t u : DT) : DT := fun ρ m Φ Ψ => t ρ m (fun c m1 => if c = true then u ρ m1 Φ Ψ else Φ false m1) Ψ
def dOr (t u : DT) : DT := fun ρ m Φ Ψ => t ρ m (fun c m1 => if c = true then Φ true m1 else u ρ m1 Φ Ψ) Ψ
def dNot (t : DT) : DT := fun ρ m Φ Ψ => t ρ m (fun c m1 => Φ (!c) m1) Ψ
theorem jw_and1 (ha : JT X E a tA) : JW X E (.BoolOp .And [a] pos) tA := pw_and1 ha
theorem jw_or1 (ha : JT X E a tA) : JW X E (.BoolOp .Or [a] pos) tA := pw_or1 ha
theorem jw_and (ha : JT X E a tA) (hb : JW X E (.BoolOp .And (b :: rest) pos) tB') : JW X E (.BoolOp .And (a :: b :: rest) pos) (dAnd tA tB') := PW.imp (pw_and ha hb) fun σ H Q ⟨w, ρ, m, Ψ, Φ, a, vl, h⟩ => by
  refine ⟨w, ρ, m, Ψ, _, a, fun c m1 w1 H1 l1 h1 q1 => ?_, h⟩
  cases c with
  | true => exact ⟨w1, ρ, m1, Ψ, Φ, a.to l1 h1, fun b m2 w2 H2 l2 h2 q2 => vl b m2 w2 H2 (l1.trans l2) h2 q2, q1⟩
  | false => exact vl false m1 w1 H1 l1 h1 q1
theorem jw_or (ha : JT X E a tA) (hb : JW X E (.BoolOp .Or (b :: rest) pos) tB') : JW X E (.BoolOp .Or (a :: b :: rest) pos) (dOr tA tB') := PW.imp (pw_or ha hb) fun σ H Q ⟨w, ρ, m, Ψ, Φ, a, vl, h⟩ => by
  refine ⟨w, ρ, m, Ψ, _, a, fun c m1 w1 H1 l1 h1 q1 => ?_, h⟩
  cases c with
  | false => exact ⟨w1, ρ, m1, Ψ, Φ, a.to l1 h1, fun b m2 w2 H2 l2 h2 q2 => vl b m2 w2 H2 (l1.trans l2) h2 q2, q1⟩
  | true => exact vl true m1 w1 H1 l1 h1 q1
theorem jt_not (ha : JT X E a tA) : JT X E (.UnaryOp .Not a pos) (dNot tA) := PT.imp (pt_not ha) fun σ H Q ⟨w, ρ, m, Ψ, Φ, a, vl, h⟩ =>
  ⟨w, ρ, m, Ψ, _, a, fun c m1 w1 H1 l1 h1 q1 => vl (!c) m1 w1 H1 l1 h1 q1, h⟩
/-- and, or, not as values of True and False -/
def dBlV (d : D) (f : Bool → Prop) : Prop := match d with
  | .bl b => f b
  | _ => False
def dAndV (a b : DE) : DE := fun ρ m Φ Ψ => a ρ m (fun x m1 => dBlV x fun c => if c = true then b ρ m1 Φ Ψ else Φ (.bl false) m1) Ψ
def dOrV (a b : DE) : DE := fun ρ m Φ Ψ => a ρ m (fun x m1 => dBlV x fun c => if c = true then Φ (.bl true) m1 else b ρ m1 Φ Ψ) Ψ
def dNotV (a : DE) : DE := fun ρ m Φ Ψ => a ρ m (fun x m1 => dBlV x fun c => Φ (.bl (!c)) m1) Ψ
theorem je_one {op} (h : JE X E a Wa) : JE X E (.BoolOp op [a] pos) Wa := pe_one h
theorem je_and (ha : JE X E a Wa) (hb : JE X E (.BoolOp .And (b :: rest) pos) Wb) : JE X E (.BoolOp .And (a :: b :: rest) pos) (dAndV Wa Wb) := PE.imp (pe_and ha hb) fun σ H Q ⟨w, ρ, m, Ψ, Φ, a, vl, h⟩ => by
  refine ⟨w, ρ, m, Ψ, _, a, fun c m1 w1 H1 v l1 h1 r1 q1 => ?_, h⟩
  cases c with
  | bl c =>
    refine ⟨c, r1, ?_⟩
    cases c with
    | true => exact ⟨w1, ρ, m1, Ψ, Φ, a.to l1 h1, vl.mono l1, q1⟩
    | false => exact vl (.bl false) m1 w1 H1 _ l1 h1 rfl q1
  | _ => exact False.elim q1
theorem je_or (ha : JE X E a Wa) (hb : JE X E (.BoolOp .Or (b :: rest) pos) Wb) : JE X E (.BoolOp .Or (a :: b :: rest) pos) (dOrV Wa Wb) := PE.imp (pe_or ha hb) fun σ H Q ⟨w, ρ, m, Ψ, Φ, a, vl, h⟩ => by
  refine ⟨w, ρ, m, Ψ, _, a, fun c m1 w1 H1 v l1 h1 r1 q1 => ?_, h⟩
  cases c with
  | bl c =>
    refine ⟨c, r1, ?_⟩
    cases c with
    | false => exact ⟨w1, ρ, m1, Ψ, Φ, a.to l1 h1, vl.mono l1, q1⟩
    | true => exact vl (.bl true) m1 w1 H1 _ l1 h1 rfl q1
  | _ => exact False.elim q1
def dIfE (t : DT) (a b : DE) : DE := fun ρ m Φ Ψ => t ρ m (fun c m1 => if c = true then a ρ m1 Φ Ψ else b ρ m1 Φ Ψ) Ψ
theorem je_ifExp {c : Expr} (hc : JT X E c tA) (ha : JE X E a Wa) (hb : JE X E b Wb) : JE X E (.IfExp c a b pos) (dIfE tA Wa Wb) := PE.imp (pe_ifExp hc ha hb) fun σ H Q ⟨w, ρ, m, Ψ, Φ, a, vl, h⟩ => by
  refine ⟨w, ρ, m, Ψ, _, a, fun c m1 w1 H1 l1 h1 q1 => ?_, h⟩
  cases c with
  | true => exact ⟨w1, ρ, m1, Ψ, Φ, a.to l1 h1, vl.mono l1, q1⟩
  | false => exact ⟨w1, ρ, m1, Ψ, Φ, a.to l1 h1, vl.mono l1, q1⟩

/-! ### argument lists, displays -/
variable {es : List Expr} {Ws : DA}
def dNil : DA := fun _ m Φ _ => Φ [] m
def dCons (a : DE) (r : DA) : DA := fun ρ m Φ Ψ => a ρ m (fun x m1 => r ρ m1 (fun xs m2 => Φ (x :: xs) m2) Ψ) Ψ
theorem ja_nil : JA X E [] dNil := PA.imp pa_nil fun σ H Q ⟨w, ρ, m, Ψ, Φ, a, vl, h⟩ => vl [] m w H [] (.refl w) a.h rfl h
theorem ja_cons (ha : JE X E a Wa) (hr : JA X E es Ws) (hs : starEach (a :: es) X.env = (false, eval a X.env) :: starEach es X.env := by rfl) : JA X E (a :: es) (dCons Wa Ws) := PA.imp (pa_cons ha hr hs) fun σ H Q ⟨w, ρ, m, Ψ, Φ, a, vl, h⟩ => by
  refine ⟨w, ρ, m, Ψ, _, a, fun x m1 w1 H1 v l1 h1 r1 q1 => ?_, h⟩
  exact ⟨w1, ρ, m1, Ψ, _, a.to l1 h1, fun ds m2 w2 H2 vs l2 h2 r2 q2 => vl (x :: ds) m2 w2 H2 _ (l1.trans l2) h2 ⟨v, vs, rfl, Rep.mono l2 _ _ r1, r2⟩ q2, q1⟩
abbrev LIM : Nat := 16777216
theorem lim_sz {n : Nat} (h : n ≤ LIM) : n ≤ sizeLine := by rw [sizeLine_eq]; exact h
theorem lim_lt {n : Nat} (h : n < LIM) : n < sizeLine := by rw [sizeLine_eq]; exact h
def dLst (r : DA) : DE := fun ρ m Φ Ψ => r ρ m (fun ds m1 => ds.length ≤ LIM ∧ Φ (.lst ds) m1) Ψ
def dTup (r : DA) : DE := fun ρ m Φ Ψ => r ρ m (fun ds m1 => ds.length ≤ LIM ∧ Φ (.tup ds) m1) Ψ
def dLstM (r : DA) : DE := fun ρ m Φ Ψ => r ρ m (fun ds m1 => ds.length ≤ LIM ∧ Φ (.hnd m1.M.length) (m1.push (.lst ds))) Ψ
theorem je_lst (h : JA X E es Ws) : JE X E (.List es pos) (dLst Ws) := PE.imp (pe_lst h) fun σ H Q ⟨w, ρ, m, Ψ, Φ, a, vl, h⟩ =>
  ⟨w, ρ, m, Ψ, _, a, fun ds m1 w1 H1 vs l1 h1 r1 ⟨z, q1⟩ => ⟨lim_sz (by rw [r1.length]; exact z), fun p hp => vl _ m1 _ _ _ (l1.trans (Wd.le_put (h1.nof hp))) (h1.put hp) (rep_put_lst h1 hp r1) q1⟩, h⟩
theorem je_tup {x1} (h : JA X E es Ws) : JE X E (.Tuple es x1 pos) (dTup Ws) := PE.imp (pe_tup h) fun σ H Q ⟨w, ρ, m, Ψ, Φ, a, vl, h⟩ =>
  ⟨w, ρ, m, Ψ, _, a, fun ds m1 w1 H1 vs l1 h1 r1 ⟨z, q1⟩ => ⟨lim_sz (by rw [r1.length]; exact z), fun p hp => vl _ m1 _ _ _ (l1.trans (Wd.le_put (h1.nof hp))) (h1.put hp) (rep_put_tup h1 hp r1) q1⟩, h⟩
theorem je_lstM (h : JA X E es Ws) : JE X E (.List es pos) (dLstM Ws) := PE.imp (pe_lst h) fun σ H Q ⟨w, ρ, m, Ψ, Φ, a, vl, h⟩ =>
  ⟨w, ρ, m, Ψ, _, a, fun ds m1 w1 H1 vs l1 h1 r1 ⟨z, q1⟩ => ⟨lim_sz (by rw [r1.length]; exact z), fun p hp => vl _ _ _ _ _ (l1.trans Wd.le_add) (h1.add (o := .lst ds) hp ⟨vs, upd_same, RepAll.mono Wd.le_add _ _ r1⟩) (rep_add h1) q1⟩, h⟩

/-! ### calls -/
/-- what a def is worth: arguments, store, wanted end, wanted exception -/
abbrev DC := List D → MM → (D → MM → Prop) → XP → Prop
def spOf (K : PySem.W.Frag) (n : Nat) (C : DC) : Sp := fun vs H Q E => vs.length = n ∧ ∃ w ds m Φ Ψ, HRep K w m H ∧ RepAll K w ds vs ∧ VLift K w Q Φ ∧ XLift K w (fun cls d _ H => E cls d H) [] Ψ ∧ C ds m Φ Ψ
def dCall (n : Nat) (C : DC) (r : DA) : DE := fun ρ m Φ Ψ => r ρ m (fun ds m1 => ds.length = n ∧ C ds m1 Φ Ψ) Ψ
variable {k n : Nat} {f : Addr} {fd : FuncData} {ps : List Str} {C : DC} {x : Str} {p : Pos}
theorem call_ok {w : Wd} {ρ : Env} {m : MM} {Ψ : XP} {Φ : D → MM → Prop} {σ : L2.St} {H : Hp} {Q : VK} {ds : List D} {vs : List V} (a : At X.K E w σ H ρ m Ψ) (vl : VLift X.K w Q Φ) (r : RepAll X.K w ds vs) (hn : ds.length = n) (c : C ds m Φ Ψ) :
    spOf X.K n C (vs ++ []) H Q (WE E σ) := by
  rw [List.append_nil]
  exact ⟨r.length.trans hn, w, ds, m, Φ, Ψ, a.h, r, vl, fun C fs m' w' H' d xs l h b c q => a.x C fs m' w' H' d xs l h b c q, c⟩
theorem je_call {e : Expr} (tk : Takes X E) (F : FnOk X.prog X.w X.K X.mg X.base (L2.CX X.prog X.w) k f fd ps (spOf X.K n C)) (hr : Room k X.A) (hg : Gl X x) (hm : X.mg x = some (.ref f)) (hk : PySem.W.keepIn X.K (.ref f) = true) (hb : Binds X.K fd ps [])
    (ha : JA X E (e :: es) Ws) (hdb : (x == ("__debug__" : Str)) = false := by decide) (he : starEach (e :: es) X.env = (false, eval e X.env) :: starEach es X.env := by rfl) (hpl : (backTo pos (starEach es X.env)).any (·.1) = false := by rfl) :
    JE X E (.Call (.Name x p) (e :: es) [] pos) (dCall n C Ws) := PE.imp (pe_callS F hr hg hm hk hb (fun σ => passAt tk σ) ha hdb he hpl) fun σ H Q ⟨w, ρ, m, Ψ, Φ, a, vl, h⟩ =>
  ⟨w, ρ, m, Ψ, _, a, fun ds m1 w1 H1 vs l1 h1 r1 ⟨hn, q1⟩ => by
    have z := call_ok (C := C) (a.to l1 h1) (vl.mono l1) r1 hn q1
    rw [List.append_nil] at z
    exact z, h⟩
end
end Dl

namespace Dl
open PySem L2 PyProof.Rows

/-! ### statements -/
def dNext : DS := fun N _ ρ m => N.nx ρ m
def dSeq (t u : DS) : DS := fun N Ψ ρ m => t { N with nx := u N Ψ } Ψ ρ m
def dBreak : DS := fun N _ ρ m => N.bk ρ m
def dDrop (e : DE) : DS := fun N Ψ ρ m => e ρ m (fun _ m1 => N.nx ρ m1) (Ψ ρ)
def dRet (e : DE) : DS := fun N Ψ ρ m => e ρ m N.rt (Ψ ρ)
def dRetN : DS := fun N _ _ m => N.rt .non m
def dIf (c : DT) (t u : DS) : DS := fun N Ψ ρ m => c ρ m (fun b m1 => if b = true then t N Ψ ρ m1 else u N Ψ ρ m1) (Ψ ρ)
def dSet (i : Nat) (e : DE) : DS := fun N Ψ ρ m => e ρ m (fun d m1 => N.nx (ρ.set i (some d)) m1) (Ψ ρ)
/-- targets -/
abbrev DG := D → Env → MM → (Env → MM → Prop) → Prop
def dgName (i : Nat) : DG := fun d ρ m k => k (ρ.set i (some d)) m
def bindD : List Nat → List D → Env → Env
  | i :: is, d :: ds, ρ => bindD is ds (ρ.set i (some d))
  | _, _, ρ => ρ
def asT : D → Option (List D)
  | .tup ds => some ds
  | .rot ds => some ds
  | _ => none
def dgTup (is : List Nat) : DG := fun d ρ m k => match asT d with
  | some ds => ds.length = is.length ∧ k (bindD is ds ρ) m
  | none => False
def dAsg (e : DE) (g : DG) : DS := fun N Ψ ρ m => e ρ m (fun d m1 => g d ρ m1 N.nx) (Ψ ρ)
def dAug (i : Nat) (o : DO) (e : DE) : DS := fun N Ψ ρ m => match ρ[i]? with
  | some (some x) => e ρ m (fun y m1 => o x y m1 (fun z m2 => N.nx (ρ.set i (some z)) m2)) (Ψ ρ)
  | _ => False
/-- iteration -/
abbrev DI := Env → MM → (List D → MM → Prop) → XP → Prop
def forW (g : DG) (body : DS) (N : DN) (Ψ : XS) : List D → Env → MM → Prop
  | [], ρ, m => N.nx ρ m
  | d :: ds, ρ, m => g d ρ m fun ρ1 m1 => body { N with nx := forW g body N Ψ ds, ct := forW g body N Ψ ds, bk := N.nx } Ψ ρ1 m1
def dFor (it : DI) (g : DG) (body : DS) : DS := fun N Ψ ρ m => it ρ m (fun ds m1 => forW g body N Ψ ds ρ m1) (Ψ ρ)
def dWhile (c : DT) (body : DS) : DS := fun N Ψ ρ m => ∃ W : Nat → Env → MM → Prop, (∃ n, W n ρ m) ∧ ∀ n ρ m, W n ρ m →
  c ρ m (fun b m1 => if b = true then body { N with nx := fun ρ' m' => ∃ n', n' < n ∧ W n' ρ' m', ct := fun ρ' m' => ∃ n', n' < n ∧ W n' ρ' m', bk := N.nx } Ψ ρ m1 else N.nx ρ m1) (Ψ ρ)

section
variable {X : Cx} {E : WX} {a b c : Expr} {Wa Wb Wc : DE} {pos : Pos} {st : Stmt} {rest body : List Stmt} {t u : DS} {tc : DT}
theorem NLift.with {K : PySem.W.Frag} {w : Wd} {D : Ends} {N : DN} (h : NLift K w D N) {q : L2.St → Hp → Prop} {f : Env → MM → Prop} (s : SLift K w q f) : NLift K w { D with nx := q } { N with nx := f } := ⟨s, h.rt, h.bk, h.ct⟩
theorem jss_nil : JSs X E [] dNext := PSs.imp pss_nil fun D σ H ⟨w, ρ, m, Ψ, N, a, n, h⟩ => n.nx ρ m w H σ (.refl w) a.h a.s h
theorem jss_cons (h1 : JS X E st t) (h2 : JSs X E rest u) : JSs X E (st :: rest) (dSeq t u) := PSs.imp (pss_cons h1 h2) fun D σ H ⟨w, ρ, m, Ψ, N, a, n, h⟩ =>
  ⟨w, ρ, m, Ψ, { N with nx := u N Ψ }, a, n.with fun ρ' m' w' H' σ' l h' s' q => ⟨w', ρ', m', Ψ, N, ⟨h', s', a.x.mono l⟩, n.mono l, q⟩, h⟩
theorem jss_one (h1 : JS X E st t) : JSs X E [st] t := pss_one h1
theorem js_break : JS X E (.Break pos) dBreak := PS.imp ps_break fun D σ H ⟨w, ρ, m, Ψ, N, a, n, h⟩ => n.bk ρ m w H σ (.refl w) a.h a.s h
theorem js_expr (he : JE X E a Wa) (hs : swapsWith a none pos.line X.env = pure false := by rfl) : JS X E (.Expr a pos) (dDrop Wa) := PS.imp (ps_expr he hs) fun D σ H ⟨w, ρ, m, Ψ, N, a, n, h⟩ =>
  ⟨w, ρ, m, Ψ ρ, _, a.at, fun d m1 w1 H1 v l1 h1 r1 q1 => n.nx ρ m1 w1 H1 σ l1 h1 (a.s.mono l1) q1, h⟩
theorem js_ret (he : JE X E a Wa) : JS X E (.Return (some a) pos) (dRet Wa) := PS.imp (ps_ret he) fun D σ H ⟨w, ρ, m, Ψ, N, a, n, h⟩ => ⟨w, ρ, m, Ψ ρ, _, a.at, n.rt, h⟩
theorem js_if {A B : List Stmt} (hc : JT X E c tc) (ha : JSs X E A t) (hb : JSs X E B u) : JS X E (.If c A B pos) (dIf tc t u) := PS.imp (ps_if hc ha hb) fun D σ H ⟨w, ρ, m, Ψ, N, a, n, h⟩ => by
  refine ⟨w, ρ, m, Ψ ρ, _, a.at, fun b m1 w1 H1 l1 h1 q1 => ?_, h⟩
  cases b with
  | true => exact ⟨w1, ρ, m1, Ψ, N, a.to l1 h1, n.mono l1, q1⟩
  | false => exact ⟨w1, ρ, m1, Ψ, N, a.to l1 h1, n.mono l1, q1⟩
theorem js_set (i : Nat) {x : Str} {pos' : Pos} (hN : X.N.Nodup) (hi : X.N[i]? = some x) (hx : Loc X.env.scope x) (he : JE X E a Wa) (hs : swapsWith a (some (.Name x pos')) pos.line X.env = pure false := by rfl)
    (hf : X.fn x = true ∨ X.env.scope.names.lookup x = some .local := by first | exact .inl rfl | exact .inr rfl | assumption) : JS X E (.Assign [.Name x pos'] a pos) (dSet i Wa) := PS.imp (ps_set hN hi hx he hs hf) fun D σ H ⟨w, ρ, m, Ψ, N, a, n, h⟩ =>
  ⟨w, ρ, m, Ψ ρ, _, a.at, fun d m1 w1 H1 v l1 h1 r1 q1 => n.nx _ m1 w1 H1 _ l1 h1 ((a.s.mono l1).set i r1) q1, h⟩

/-! targets -/
def liftG (K : PySem.W.Frag) (js : List Nat) (G : DG) : TG := fun v σ H Q => ∃ w ρ m d k, HRep K w m H ∧ Slots K w σ ρ ∧ Rep K w d v ∧ (∀ ρ' m' w' H' σ', w.le w' → HRep K w' m' H' → Slots K w' σ' ρ' → wipe σ' js = wipe σ js → k ρ' m' → Q σ' H') ∧ G d ρ m k
theorem PG.imp {e : Expr} {t t' : TG} (h : PG X e t) (i : ∀ v σ H Q, t' v σ H Q → t v σ H Q) : PG X e t' := ⟨fun pins s σ H x v Q I r q => h.run pins s σ H x v Q I r (i x σ H Q q)⟩
theorem wipe_get {σ : L2.St} {js : List Nat} {i : Nat} : (wipe σ js)[i]? = if i ∈ js ∧ i < σ.length then some none else σ[i]? := by
  induction js with
  | nil => simp [wipe]
  | cons j js ih =>
    show ((wipe σ js).set j none)[i]? = _
    by_cases h : j = i
    · subst h
      by_cases hl : j < σ.length
      · rw [List.getElem?_set_self (by rw [wipe_length]; exact hl), if_pos ⟨List.mem_cons_self, hl⟩]
      · rw [List.getElem?_eq_none (by rw [List.length_set, wipe_length]; omega), if_neg (fun z => hl z.2), List.getElem?_eq_none (by omega)]
    · rw [List.getElem?_set_ne h, ih]
      have e : (i ∈ j :: js ∧ i < σ.length) ↔ (i ∈ js ∧ i < σ.length) := by
        constructor
        · rintro ⟨z, q⟩
          rcases List.mem_cons.mp z with z | z
          · exact absurd z.symm h
          · exact ⟨z, q⟩
        · rintro ⟨z, q⟩; exact ⟨List.mem_cons_of_mem _ z, q⟩
      by_cases q : i ∈ js ∧ i < σ.length
      · rw [if_pos q, if_pos (e.mpr q)]
      · rw [if_neg q, if_neg (fun z => q (e.mp z))]
theorem wipe_set {σ : L2.St} {js : List Nat} {i : Nat} {v : Option V} (h : i ∈ js) : wipe (σ.set i v) js = wipe σ js := by
  apply List.ext_getElem?
  intro j
  rw [wipe_get, wipe_get, List.length_set]
  by_cases q : j ∈ js ∧ j < σ.length
  · rw [if_pos q, if_pos q]
  · rw [if_neg q, if_neg q]
    by_cases e : i = j
    · subst e
      have hl : ¬ i < σ.length := fun z => q ⟨h, z⟩
      rw [List.getElem?_eq_none (by rw [List.length_set]; omega), List.getElem?_eq_none (by omega)]
    · rw [List.getElem?_set_ne e]
theorem wipe_wipe {σ : L2.St} {js : List Nat} : wipe (wipe σ js) js = wipe σ js := by
  apply List.ext_getElem?
  intro j
  rw [wipe_get, wipe_get, wipe_length]
  by_cases q : j ∈ js ∧ j < σ.length
  · simp [q]
  · simp [q]
theorem jg_name (i : Nat) {x : Str} {pos : Pos} {js : List Nat} (hj : i ∈ js) (hN : X.N.Nodup) (hi : X.N[i]? = some x) (hx : Loc X.env.scope x) (hf : X.fn x = true ∨ X.env.scope.names.lookup x = some .local := by first | exact .inl rfl | exact .inr rfl | assumption) :
    PG X (.Name x pos) (liftG X.K js (dgName i)) := PG.imp (pg_name hN hi hx hf) fun v σ H Q ⟨w, ρ, m, d, k, h, s, r, n, q⟩ => n _ m w H _ (.refl w) h (s.set i r) (wipe_set hj) q
def gNames : List Nat → TGs
  | [] => gNil
  | i :: is => gCons (gName i) (gNames is)
theorem gNames_ok {K : PySem.W.Frag} {w : Wd} {H : Hp} {js : List Nat} : ∀ (is : List Nat), (∀ i ∈ is, i ∈ js) → ∀ (ds : List D) (vs : List V) (σ : L2.St) (ρ : Env) (Q : L2.St → Hp → Prop), ds.length = is.length → RepAll K w ds vs → Slots K w σ ρ →
    (∀ σ', Slots K w σ' (bindD is ds ρ) → wipe σ' js = wipe σ js → Q σ' H) → gNames is vs σ H Q
  | [], _, [], vs, σ, ρ, Q, _, r, s, q => by
    have e : vs = [] := r
    subst e
    exact ⟨rfl, q σ s rfl⟩
  | i :: is, hj, d :: ds, vs, σ, ρ, Q, hl, r, s, q => by
    obtain ⟨v, r', rfl, rv, rr⟩ := r
    refine ⟨v, r', rfl, ?_⟩
    refine gNames_ok is (fun j h => hj j (List.mem_cons_of_mem _ h)) ds r' _ (ρ.set i (some d)) Q (by simpa using hl) rr (s.set i rv) fun σ' s' e => q σ' s' (e.trans (wipe_set (hj i List.mem_cons_self)))
theorem asT_ok {K : PySem.W.Frag} {w : Wd} {m : MM} {H : Hp} {d : D} {ds : List D} {v : V} (h : HRep K w m H) (e : asT d = some ds) (r : Rep K w d v) : ∃ a xs, v = .ref a ∧ SqT K H a xs ∧ RepAll K w ds xs := by
  cases d with
  | tup es => cases e; obtain ⟨a, xs, e, q, r⟩ := r; exact ⟨a, xs, e, .inl (.inl (h.ext _ _ q)), r⟩
  | rot es => cases e; obtain ⟨a, xs, e, q, r⟩ := r; exact ⟨a, xs, e, sqt_mono h.ext q, r⟩
  | _ => cases e
theorem jg_tup {es : List Expr} {k : Nat} (is : List Nat) {js : List Nat} {pos : Pos} (hc : X.calm = true) (hj : ∀ i ∈ is, i ∈ js) (h : PGs X es (gNames is)) (hn : (assignEach es X.env).length = is.length := by rfl)
    (hst : (assignEach es X.env).findIdx? (·.1) = none := by rfl) : PG X (.Tuple es k pos) (liftG X.K js (dgTup is)) := PG.imp (pg_tup hc h hn hst) fun v σ H Q ⟨w, ρ, m, d, k, h, s, r, n, q⟩ => by
  unfold dgTup at q
  split at q
  · rename_i ds e
    obtain ⟨a, xs, rfl, hq, rr⟩ := asT_ok h e r
    exact ⟨a, xs, rfl, hq, rr.length.trans q.1, gNames_ok is hj ds xs σ ρ _ q.1 rr s fun σ' s' e => n _ m w H σ' (.refl w) h s' e q.2⟩
  · exact q.elim
theorem js_asg {tg : Expr} {g : DG} {js : List Nat} (he : JE X E a Wa) (hg : PG X tg (liftG X.K js g)) (hs : swapsWithSole [tg] a pos.line X.env = pure false := by rfl) (hw : swappedStores [tg] a X.env = pure none := by rfl) (h1 : (assignEach [tg] X.env).map (·.2) = [assign tg X.env] := by rfl) : JS X E (.Assign [tg] a pos) (dAsg Wa g) :=
  PS.imp (ps_asg he hg hs hw h1) fun D σ H ⟨w, ρ, m, Ψ, N, a, n, h⟩ =>
    ⟨w, ρ, m, Ψ ρ, _, a.at, fun d m1 w1 H1 v l1 h1 r1 q1 => ⟨w1, ρ, m1, d, _, h1, a.s.mono l1, r1, fun ρ' m' w' H' σ' l h' s' _ q => n.nx ρ' m' w' H' σ' (l1.trans l) h' s' q, q1⟩, h⟩
theorem js_aug (i : Nat) {x : Str} {op : Operator} {r : R2} {o : DO} {pos' : Pos} (hN : X.N.Nodup) (hi : X.N[i]? = some x) (hx : Loc X.env.scope x) (he : JE X E a Wa) (ho : OpR X (inplaceOp op) r) (hl : OpL X.K r o)
    (hf : X.fn x = true ∨ X.env.scope.names.lookup x = some .local := by first | exact .inl rfl | exact .inr rfl | assumption) : JS X E (.AugAssign (.Name x pos') op a pos) (dAug i o Wa) :=
  PS.imp (ps_aug hN hi hx he (fun pins s σ H x y v u Q I rx ry q => ho pins s σ H x y v u Q I rx ry q) hf) fun D σ H ⟨w, ρ, m, Ψ, N, a, n, h⟩ => by
  unfold dAug at h
  split at h
  · rename_i d e
    obtain ⟨v, e1, r1⟩ := a.s.2 i d e
    refine ⟨v, e1, w, ρ, m, Ψ ρ, _, a.at, fun y m1 w1 H1 u l1 h1 r2 q1 => ?_, h⟩
    exact hl w1 m1 H1 d y v u _ _ h1 (Rep.mono l1 _ _ r1) r2 (fun z m2 w2 H2 zv l2 h2 r3 q2 => n.nx _ m2 w2 H2 _ (l1.trans l2) h2 ((a.s.mono (l1.trans l2)).set i r3) q2) q1
  · exact h.elim

/-! ### loops -/
theorem js_while {c : Expr} (hp : PassesOwn (model X.prog X.w) X.A X.env X.xe) (hc : JT X E c tc) (hb : JSs X E body t) : JS X E (.While c body [] pos) (dWhile tc t) := PS.imp (ps_while hp hc hb) fun D σ H ⟨w, ρ, m, Ψ, N, a, n, h⟩ => by
  obtain ⟨W, ⟨n0, w0⟩, hw⟩ := h
  refine ⟨fun k σ H => ∃ w' ρ m, w.le w' ∧ AtS X.K E w' σ H ρ m Ψ ∧ W k ρ m, ⟨n0, w, ρ, m, .refl w, a, w0⟩, ?_⟩
  rintro k σ1 H1 ⟨w1, ρ1, m1, l1, a1, q1⟩
  refine ⟨w1, ρ1, m1, Ψ ρ1, _, a1.at, fun b m2 w2 H2 l2 h2 q2 => ?_, hw k ρ1 m1 q1⟩
  have a2 := a1.to l2 h2
  cases b with
  | true =>
    show (if true = true then _ else _)
    rw [if_pos rfl]
    refine ⟨fun σ' H' => ∃ k', k' < k ∧ ∃ w' ρ m, w.le w' ∧ AtS X.K E w' σ' H' ρ m Ψ ∧ W k' ρ m, fun σ' H' z => z, w2, ρ1, m2, Ψ, _, a2, ?_, q2⟩
    have n2 := n.mono (l1.trans l2)
    have go : SLift X.K w2 (fun σ' H' => ∃ k', k' < k ∧ ∃ w' ρ m, w.le w' ∧ AtS X.K E w' σ' H' ρ m Ψ ∧ W k' ρ m) (fun ρ' m' => ∃ n', n' < k ∧ W n' ρ' m') := fun ρ' m' w' H' σ' l h' s' ⟨k', lt, q⟩ =>
      ⟨k', lt, w', ρ', m', (l1.trans l2).trans l, ⟨h', s', a2.x.mono l⟩, q⟩
    exact ⟨go, n2.rt, n2.nx, go⟩
  | false =>
    show (if false = true then _ else _)
    rw [if_neg Bool.false_ne_true]
    exact n.nx ρ1 m2 w2 H2 σ1 (l1.trans l2) h2 a2.s q2

/-- an iterator gives just these -/
structure Wlk (K : PySem.W.Frag) (w0 : Wd) (J : It) (ds : List D) : Prop where
  go : ∀ w m H (i : Nat) d, w0.le w → HRep K w m H → ds[i]? = some d → J.go i H
  stop : ∀ w m H, w0.le w → HRep K w m H → J.stop ds.length H
  yld : ∀ w m H (i : Nat) d x H', w0.le w → HRep K w m H → ds[i]? = some d → J.yld i H x H' → ∃ w', w.le w' ∧ HRep K w' m H' ∧ Rep K w' d x
def liftI (K : PySem.W.Frag) (E : WX) (W : DI) : TI := fun σ H R => ∃ w ρ m Ψ Φ, At K E w σ H ρ m Ψ ∧ (∀ ds m' w' H' J, w.le w' → HRep K w' m' H' → Wlk K w' J ds → Φ ds m' → R J H') ∧ W ρ m Φ Ψ
abbrev JI (X : Cx) (E : WX) (tg it : Expr) (W : DI) : Prop := PI X tg it (liftI X.K E W)
theorem PI.imp {tg e : Expr} {t t' : TI} (h : PI X tg e t) (i : ∀ σ H R, t' σ H R → t σ H R) : PI X tg e t' := ⟨fun pins s σ H R I q => h.run pins s σ H R I (i σ H R q)⟩
theorem js_for {tg iter : Expr} {wi : DI} {g : DG} {js : List Nat} (hp : PassesOwn (model X.prog X.w) X.A X.env X.xe) (hc : X.calm = true) (hi : JI X E tg iter wi) (hg : PG X tg (liftG X.K js g)) (hb : JSs X E body t)
    (hs : ∀ x, foldedSetIterable iter X.env x = pure x := by intro _; rfl) : JS X E (.For tg iter body [] pos) (dFor wi g t) := PS.imp (ps_for hp hc hi hg hb hs) fun D σ H ⟨w, ρ, m, Ψ, N, a, n, h⟩ => by
  refine ⟨w, ρ, m, Ψ ρ, _, a.at, fun ds m1 w1 H1 J l1 h1 wk q1 => ?_, h⟩
  refine ⟨fun i k σ H => k = ds.length - i ∧ i ≤ ds.length ∧ ∃ w' ρ m, w1.le w' ∧ AtS X.K E w' σ H ρ m Ψ ∧ forW g t N Ψ (ds.drop i) ρ m, ⟨ds.length, by omega, Nat.zero_le _, w1, ρ, m1, .refl w1, a.to l1 h1, q1⟩, ?_⟩
  rintro i k σ2 H2 ⟨rfl, hi, w2, ρ2, m2, l2, a2, q2⟩
  by_cases hlt : i < ds.length
  · have ed : ds[i]? = some ds[i] := List.getElem?_eq_getElem hlt
    have dr : ds.drop i = ds[i] :: ds.drop (i + 1) := List.drop_eq_getElem_cons hlt
    rw [dr] at q2
    refine .inr ⟨wk.go w2 m2 H2 i _ l2 a2.h ed, fun σ' H' => ∃ w' ρ m, w1.le w' ∧ AtS X.K E w' σ' H' ρ m Ψ ∧ forW g t N Ψ (ds.drop (i + 1)) ρ m, fun σ' H' z => ⟨ds.length - (i + 1), by omega, rfl, hlt, z⟩, fun x H3 y => ?_⟩
    obtain ⟨w3, l3, h3, r3⟩ := wk.yld w2 m2 H2 i _ x H3 l2 a2.h ed y
    refine ⟨w3, ρ2, m2, ds[i], _, h3, a2.s.mono l3, r3, fun ρ' m' w' H' σ' l h' s' _ q => ?_, q2⟩
    have l4 := l2.trans (l3.trans l)
    refine ⟨w', ρ', m', Ψ, _, ⟨h', s', a2.x.mono (l3.trans l)⟩, ?_, q⟩
    have n2 := n.mono (l1.trans l4)
    have go : SLift X.K w' (fun σ' H' => ∃ w' ρ m, w1.le w' ∧ AtS X.K E w' σ' H' ρ m Ψ ∧ forW g t N Ψ (ds.drop (i + 1)) ρ m) (forW g t N Ψ (ds.drop (i + 1))) := fun ρ5 m5 w5 H5 σ5 l5 h5 s5 q5 =>
      ⟨w5, ρ5, m5, l4.trans l5, ⟨h5, s5, a2.x.mono ((l3.trans l).trans l5)⟩, q5⟩
    exact ⟨go, n2.rt, n2.nx, go⟩
  · have e : i = ds.length := by omega
    subst e
    rw [List.drop_length] at q2
    exact .inl ⟨wk.stop w2 m2 H2 l2 a2.h, n.nx ρ2 m2 w2 H2 σ2 (l1.trans l2) a2.h a2.s q2⟩

/-! iterators -/
def moL : Option MO → Option (List D)
  | some (.lst ds) => some ds
  | _ => none
theorem moL_eq {o : Option MO} {ds : List D} (h : moL o = some ds) : o = some (.lst ds) := by
  cases o with
  | none => cases h
  | some o =>
    cases o with
    | lst es => cases h; rfl
    | _ => cases h
def asL (m : MM) : D → Option (List D)
  | .lst ds => some ds
  | .rol ds => some ds
  | .hnd k => moL m.M[k]?
  | _ => none
def asF : D → Option (List D)
  | .lst ds => some ds
  | .rol ds => some ds
  | _ => none
theorem asL_ok {K : PySem.W.Frag} {w : Wd} {m : MM} {H : Hp} {d : D} {ds : List D} {v : V} (h : HRep K w m H) (e : asL m d = some ds) (r : Rep K w d v) : ∃ a xs, v = .ref a ∧ SqL K H a xs ∧ RepAll K w ds xs := by
  cases d with
  | lst es => cases e; obtain ⟨a, xs, e, q, r⟩ := r; exact ⟨a, xs, e, .inl (.inl (h.ext _ _ q)), r⟩
  | rol es => cases e; obtain ⟨a, xs, e, q, r⟩ := r; exact ⟨a, xs, e, sql_mono h.ext q, r⟩
  | hnd k =>
    have q := moL_eq e
    obtain ⟨a, e, q2⟩ := r
    obtain ⟨xs, hx, rr⟩ := h.obj k a _ q2 q
    exact ⟨a, xs, e, .inl (.inl hx), rr⟩
  | _ => cases e
theorem asF_ok {K : PySem.W.Frag} {w : Wd} {d : D} {ds : List D} {v : V} (e : asF d = some ds) (r : Rep K w d v) : ∃ a xs, v = .ref a ∧ SqL K w.F a xs ∧ RepAll K w ds xs := by
  cases d with
  | lst es => cases e; obtain ⟨a, xs, e, q, r⟩ := r; exact ⟨a, xs, e, .inl (.inl q), r⟩
  | rol es => cases e; obtain ⟨a, xs, e, q, r⟩ := r; exact ⟨a, xs, e, q, r⟩
  | _ => cases e
def diList (e : DE) : DI := fun ρ m Φ Ψ => e ρ m (fun d m1 => match asF d with
  | some ds => Φ ds m1
  | none => False) Ψ
theorem wlk_list {K : PySem.W.Frag} {w : Wd} {a : Addr} {xs : List V} {ds : List D} (q : SqL K w.F a xs) (r : RepAll K w ds xs) : Wlk K w (Itl K a) ds where
  go := fun w1 m H i d l h e => by
    obtain ⟨v, e1, _⟩ := r.get e
    exact ⟨xs, v, sql_mono (fun a o z => h.ext a o (l.F a o z)) q, e1⟩
  stop := fun w1 m H l h => ⟨xs, sql_mono (fun a o z => h.ext a o (l.F a o z)) q, Nat.le_of_eq r.length⟩
  yld := fun w1 m H i d x H' l h e y => by
    obtain ⟨rfl, y⟩ := y
    obtain ⟨v, e1, rv⟩ := r.get e
    have z := y xs (sql_mono (fun a o z => h.ext a o (l.F a o z)) q)
    rw [e1] at z; cases z
    exact ⟨w1, .refl w1, h, Rep.mono l _ _ rv⟩
theorem ji_list {tg : Expr} (h : JE X E a Wa) : JI X E tg a (diList Wa) := PI.imp (pi_list h) fun σ H R ⟨w, ρ, m, Ψ, Φ, a, n, h⟩ => by
  refine ⟨w, ρ, m, Ψ, _, a, fun d m1 w1 H1 v l1 h1 r1 q1 => ?_, h⟩
  split at q1
  · rename_i ds e
    obtain ⟨a, xs, rfl, q, r⟩ := asF_ok e r1
    exact ⟨a, rfl, ⟨xs, sql_mono h1.ext q⟩, n ds m1 w1 H1 _ l1 h1 (wlk_list q r) q1⟩
  · exact q1.elim
def rngD (lo : Int) (n : Nat) : List D := (List.range n).map fun i => D.int (lo + (i : Nat))
theorem wlk_range {K : PySem.W.Frag} {w : Wd} {lo : Int} {n : Nat} : Wlk K w (Itr lo n) (rngD lo n) where
  go := fun w1 m H i d l h e => by
    have z := (List.getElem?_eq_some_iff.mp e).1
    show i < n
    simpa [rngD] using z
  stop := fun w1 m H l h => by show n ≤ (rngD lo n).length; simp [rngD]
  yld := fun w1 m H i d x H' l h e y => by
    obtain ⟨rfl, rfl⟩ := y
    have e' : d = D.int (lo + (i : Nat)) := by
      unfold rngD at e
      rw [List.getElem?_map] at e
      cases q : (List.range n)[i]? with
      | none => rw [q] at e; cases e
      | some j =>
        rw [q] at e
        have hj : j = i := by
          have := (List.getElem?_eq_some_iff.mp q).2
          simpa using this.symm
        subst hj
        exact (Option.some.inj e).symm
    subst e'
    exact ⟨w1, .refl w1, h, rfl⟩
def diRng1 (r : DA) : DI := fun ρ m Φ Ψ => r ρ m (fun ds m1 => match ds with
  | [.int j] => (-(2 ^ 62) ≤ j ∧ j < 2 ^ 62) ∧ Φ (rngD 0 j.toNat) m1
  | _ => False) Ψ
def diRng2 (r : DA) : DI := fun ρ m Φ Ψ => r ρ m (fun ds m1 => match ds with
  | [.int i, .int j] => (-(2 ^ 62) ≤ i ∧ i < 2 ^ 62 ∧ -(2 ^ 62) ≤ j ∧ j < 2 ^ 62) ∧ Φ (rngD i (j - i).toNat) m1
  | _ => False) Ψ
theorem rep1 {K : PySem.W.Frag} {w : Wd} {d : D} {vs : List V} (r : RepAll K w [d] vs) : ∃ v, vs = [v] ∧ Rep K w d v := by
  obtain ⟨v, r', rfl, a, b⟩ := r
  have e : r' = [] := b
  subst e; exact ⟨v, rfl, a⟩
theorem rep2 {K : PySem.W.Frag} {w : Wd} {d e : D} {vs : List V} (r : RepAll K w [d, e] vs) : ∃ v u, vs = [v, u] ∧ Rep K w d v ∧ Rep K w e u := by
  obtain ⟨v, r', rfl, a, b⟩ := r
  obtain ⟨u, rfl, c⟩ := rep1 b
  exact ⟨v, u, rfl, a, c⟩
theorem ji_range1 {tg : Expr} {Ws : DA} {p : Pos} (hg : Gl X "range") (hm : X.mg "range" = none) (ha : JA X E [a] Ws) (hs : starEach [a] X.env = [(false, eval a X.env)] := by rfl) : JI X E tg (.Call (.Name "range" p) [a] [] pos) (diRng1 Ws) :=
  PI.imp (pi_range1 hg hm ha hs) fun σ H R ⟨w, ρ, m, Ψ, Φ, a, n, h⟩ => by
  refine ⟨w, ρ, m, Ψ, _, a, fun ds m1 w1 H1 vs l1 h1 r1 q1 => ?_, h⟩
  split at q1
  · obtain ⟨v, rfl, rv⟩ := rep1 r1
    have e : v = .int _ := rv
    subst e
    exact ⟨_, rfl, q1.1.1, q1.1.2, n _ m1 w1 H1 _ l1 h1 wlk_range q1.2⟩
  · exact q1.elim
end
end Dl

namespace Dl
open PySem L2 PyProof.Rows

theorem VLift.int {K : PySem.W.Frag} {w : Wd} {m : MM} {H : Hp} {Q : VK} {Φ : D → MM → Prop} {i : Int} (vl : VLift K w Q Φ) (h : HRep K w m H) (q : Φ (.int i) m) : Q (.int i) H := vl (.int i) m w H _ (.refl w) h rfl q
theorem VLift.bl {K : PySem.W.Frag} {w : Wd} {m : MM} {H : Hp} {Q : VK} {Φ : D → MM → Prop} {i : Bool} (vl : VLift K w Q Φ) (h : HRep K w m H) (q : Φ (.bl i) m) : Q (.bl i) H := vl (.bl i) m w H _ (.refl w) h rfl q
theorem VLift.str {K : PySem.W.Frag} {w : Wd} {m : MM} {H : Hp} {Q : VK} {Φ : D → MM → Prop} {i : Str} (vl : VLift K w Q Φ) (h : HRep K w m H) (q : Φ (.str i) m) : Q (.str i) H := vl (.str i) m w H _ (.refl w) h rfl q
theorem VLift.non {K : PySem.W.Frag} {w : Wd} {m : MM} {H : Hp} {Q : VK} {Φ : D → MM → Prop} (vl : VLift K w Q Φ) (h : HRep K w m H) (q : Φ .non m) : Q .non H := vl .non m w H _ (.refl w) h rfl q
theorem VLift.newL {K : PySem.W.Frag} {w : Wd} {m : MM} {H : Hp} {Q : VK} {Φ : D → MM → Prop} {ds : List D} {xs : List V} {p : Addr} (vl : VLift K w Q Φ) (h : HRep K w m H) (hp : H p = none) (r : RepAll K w ds xs) (q : Φ (.lst ds) m) : Q (.ref p) (upd H p (.lst xs)) :=
  vl _ m _ _ _ (Wd.le_put (h.nof hp)) (h.put hp) (rep_put_lst h hp r) q
/-! ### operations -/
def oI (C : Int → Int → Prop) (g : Int → Int → Int) : DO := fun x y m Φ => match x, y with
  | .int i, .int j => C i j ∧ Φ (.int (g i j)) m
  | _, _ => False
def oI0 (g : Int → Int → Int) : DO := fun x y m Φ => match x, y with
  | .int i, .int j => Φ (.int (g i j)) m
  | _, _ => False
def oB0 (g : Int → Int → Bool) : DO := fun x y m Φ => match x, y with
  | .int i, .int j => Φ (.bl (g i j)) m
  | _, _ => False
theorem opl_I {K : PySem.W.Frag} {C C' : Int → Int → Prop} {g : Int → Int → Int} (hC : ∀ i j, C i j → C' i j) : OpL K (rI C' fun i j => .int (g i j)) (oI C g) := fun w m H x y u v Q Φ h r1 r2 vl q => by
  cases x with
  | int i =>
    cases y with
    | int j => exact ⟨i, j, r1, r2, hC _ _ q.1, vl.int h q.2⟩
    | _ => exact False.elim q
  | _ => exact False.elim q
theorem opl_I0 {K : PySem.W.Frag} {g : Int → Int → Int} : OpL K (rI0 fun i j => .int (g i j)) (oI0 g) := fun w m H x y u v Q Φ h r1 r2 vl q => by
  cases x with
  | int i =>
    cases y with
    | int j => exact ⟨i, j, r1, r2, vl.int h q⟩
    | _ => exact False.elim q
  | _ => exact False.elim q
theorem opl_B0 {K : PySem.W.Frag} {g : Int → Int → Bool} : OpL K (rI0 fun i j => .bl (g i j)) (oB0 g) := fun w m H x y u v Q Φ h r1 r2 vl q => by
  cases x with
  | int i =>
    cases y with
    | int j => exact ⟨i, j, r1, r2, vl.bl h q⟩
    | _ => exact False.elim q
  | _ => exact False.elim q
/-- a product: one factor below 2 ^ 64, or both below 2 ^ 400000 -/
def MulC (i j : Int) : Prop := (-(2 ^ 64) < i ∧ i < 2 ^ 64) ∨ (-(2 ^ 64) < j ∧ j < 2 ^ 64) ∨ CMulW i j
theorem op_mulC {X : Cx} : OpR X (binaryOp .Mult) (rI MulC fun i j => .int (i * j)) := fun pins s σ H x y v u Q I rx ry h => by
  obtain ⟨i, j, e1, e2, hc, q⟩ := h
  rcases hc with hc | hc | hc
  · exact op_mul pins s σ H x y v u Q I rx ry ⟨i, j, e1, e2, .inl hc, q⟩
  · exact op_mul pins s σ H x y v u Q I rx ry ⟨i, j, e1, e2, .inr hc, q⟩
  · exact op_mulW pins s σ H x y v u Q I rx ry ⟨i, j, e1, e2, hc, q⟩
def DivC (_ j : Int) : Prop := 0 < j ∧ j < 2 ^ 64
theorem divC_ok {i j : Int} (h : DivC i j) : CDivW i j := wide_div h.1 (b := 64) (by have := h.1; have := h.2; omega) (by decide) (by decide)
def ModC (_ j : Int) : Prop := 0 < j
/-- tracked lists -/
def asK (m : MM) : D → Option (List D)
  | .lst ds => some ds
  | .hnd k => moL m.M[k]?
  | _ => none
theorem asK_ok {K : PySem.W.Frag} {w : Wd} {m : MM} {H : Hp} {d : D} {ds : List D} {v : V} (h : HRep K w m H) (e : asK m d = some ds) (r : Rep K w d v) : ∃ a xs, v = .ref a ∧ H a = some (.lst xs) ∧ RepAll K w ds xs := by
  cases d with
  | lst es => cases e; obtain ⟨a, xs, e, q, r⟩ := r; exact ⟨a, xs, e, h.ext _ _ q, r⟩
  | hnd k =>
    have q := moL_eq e
    obtain ⟨a, e, q2⟩ := r
    obtain ⟨xs, hx, rr⟩ := h.obj k a _ q2 q
    exact ⟨a, xs, e, hx, rr⟩
  | _ => cases e
def rStrA : R2 := fun x y H Q => ∃ i j, x = .str i ∧ y = .str j ∧ i.length + j.length ≤ sizeLine ∧ Q (.str (i ++ j)) H
def rAddAll (K : PySem.W.Frag) : R2 := fun x y H Q => (rI0 fun i j => .int (i + j)) x y H Q ∨ rStrA x y H Q ∨ rCat x y H Q ∨ rCatT K x y H Q
theorem op_addAll {X : Cx} : OpR X (binaryOp .Add) (rAddAll X.K) := op_add.or (op_add_str.or (op_cat.or op_catT))
def oAdd : DO := fun x y m Φ => match x, y with
  | .int i, .int j => Φ (.int (i + j)) m
  | .str i, .str j => i.length + j.length ≤ LIM ∧ Φ (.str (i ++ j)) m
  | .tup xs, .tup ys => xs ≠ [] ∧ ys ≠ [] ∧ xs.length + ys.length ≤ LIM ∧ Φ (.tup (xs ++ ys)) m
  | .lst xs, .lst ys => xs.length + ys.length ≤ LIM ∧ Φ (.lst (xs ++ ys)) m
  | x, y => match asK m x, asK m y with
    | some xs, some ys => xs.length + ys.length ≤ LIM ∧ Φ (.lst (xs ++ ys)) m
    | _, _ => False
theorem cat_ok {K : PySem.W.Frag} {w : Wd} {m : MM} {H : Hp} {x y : D} {xs ys : List D} {u v : V} {Q : VK} {Φ : D → MM → Prop} (h : HRep K w m H) (e1 : asK m x = some xs) (e2 : asK m y = some ys) (r1 : Rep K w x u) (r2 : Rep K w y v) (vl : VLift K w Q Φ)
    (z : xs.length + ys.length ≤ LIM) (q : Φ (.lst (xs ++ ys)) m) : rCat u v H Q := by
  obtain ⟨a, us, rfl, ha, ra⟩ := asK_ok h e1 r1
  obtain ⟨b, vs, rfl, hb, rb⟩ := asK_ok h e2 r2
  refine ⟨a, b, us, vs, rfl, rfl, ha, hb, lim_sz (by rw [ra.length, rb.length]; exact z), fun p hp => ?_⟩
  exact vl _ m _ _ _ (Wd.le_put (h.nof hp)) (h.put hp) (rep_put_lst h hp (ra.append rb)) q
theorem opl_add {K : PySem.W.Frag} : OpL K (rAddAll K) oAdd := fun w m H x y u v Q Φ h r1 r2 vl q => by
  unfold oAdd at q
  split at q
  · exact .inl ⟨_, _, r1, r2, vl.int h q⟩
  · exact .inr (.inl ⟨_, _, r1, r2, lim_sz q.1, vl.str h q.2⟩)
  · obtain ⟨a, us, rfl, ha, ra⟩ := r1
    obtain ⟨b, vs, rfl, hb, rb⟩ := r2
    obtain ⟨q1, q2, q3, q4⟩ := q
    have n1 : us ≠ [] := fun z => by subst z; have := ra.length; exact q1 (List.length_eq_zero_iff.mp this.symm)
    have n2 : vs ≠ [] := fun z => by subst z; have := rb.length; exact q2 (List.length_eq_zero_iff.mp this.symm)
    refine .inr (.inr (.inr ⟨a, b, us, vs, rfl, rfl, .inl (.inl (h.ext _ _ ha)), .inl (.inl (h.ext _ _ hb)), n1, lim_sz (by rw [ra.length, rb.length]; exact q3), fun z => absurd z n2, fun _ p hp => ?_⟩))
    exact vl _ m _ _ _ (Wd.le_put (h.nof hp)) (h.put hp) (rep_put_tup h hp (ra.append rb)) q4
  · exact .inr (.inr (.inl (cat_ok h (x := .lst _) (y := .lst _) rfl rfl r1 r2 vl q.1 q.2)))
  · split at q
    · rename_i e1 e2
      exact .inr (.inr (.inl (cat_ok h e1 e2 r1 r2 vl q.1 q.2)))
    · exact q.elim

/-! equality -/
mutual
def toPy : D → PyData
  | .bl b => .bool b
  | .int i => .int i
  | .str x => .str x
  | .lst ds => .list (toPys ds)
  | .rol ds => .list (toPys ds)
  | .tup ds => .tuple (toPys ds)
  | .rot ds => .tuple (toPys ds)
  | _ => .none
def toPys : List D → List PyData
  | [] => []
  | d :: ds => toPy d :: toPys ds
end
mutual
def okE (n : Nat) : D → Bool
  | .non => true
  | .bl _ => true
  | .int _ => true
  | .str x => PyData.strOk x
  | .lst ds => decide (0 < n) && okEs (n - 1) ds
  | .rol ds => decide (0 < n) && okEs (n - 1) ds
  | .tup ds => decide (0 < n) && okEs (n - 1) ds
  | .rot ds => decide (0 < n) && okEs (n - 1) ds
  | _ => false
def okEs (n : Nat) : List D → Bool
  | [] => true
  | d :: ds => okE n d && okEs n ds
end

section
variable {K : PySem.W.Frag} {w : Wd} {m : MM} {H : Hp}
mutual
theorem dp_of (h : HRep K w m H) : ∀ (d : D) (v : V) (n : Nat), Rep K w d v → okE n d = true → Dp K H v (toPy d)
  | .non, _, _, r, _ => by cases (show _ = V.non from r); exact .non
  | .bl b, _, _, r, _ => by cases (show _ = V.bl b from r); exact .bl b
  | .int i, _, _, r, _ => by cases (show _ = V.int i from r); exact .int i
  | .str x, _, _, r, _ => by cases (show _ = V.str x from r); exact .str x
  | .lst ds, _, n, ⟨a, xs, e, q, r⟩, o => by
    subst e
    have o : (decide (0 < n) && okEs (n - 1) ds) = true := o
    rw [Bool.and_eq_true] at o
    exact .lst (.inl (.inl (h.ext _ _ q))) (dps_of h ds xs (n - 1) r o.2)
  | .rol ds, _, n, ⟨a, xs, e, q, r⟩, o => by
    subst e
    have o : (decide (0 < n) && okEs (n - 1) ds) = true := o
    rw [Bool.and_eq_true] at o
    exact .lst (sql_mono h.ext q) (dps_of h ds xs (n - 1) r o.2)
  | .tup ds, _, n, ⟨a, xs, e, q, r⟩, o => by
    subst e
    have o : (decide (0 < n) && okEs (n - 1) ds) = true := o
    rw [Bool.and_eq_true] at o
    exact .tup (.inl (.inl (h.ext _ _ q))) (dps_of h ds xs (n - 1) r o.2)
  | .rot ds, _, n, ⟨a, xs, e, q, r⟩, o => by
    subst e
    have o : (decide (0 < n) && okEs (n - 1) ds) = true := o
    rw [Bool.and_eq_true] at o
    exact .tup (sqt_mono h.ext q) (dps_of h ds xs (n - 1) r o.2)
  | .ty _, _, _, _, o => nomatch o
  | .cls _, _, _, _, o => nomatch o
  | .hnd _, _, _, _, o => nomatch o
  | .st _, _, _, _, o => nomatch o
  | .exc _ _ _ _, _, _, _, o => nomatch o
theorem dps_of (h : HRep K w m H) : ∀ (ds : List D) (vs : List V) (n : Nat), RepAll K w ds vs → okEs n ds = true → DpAll K H vs (toPys ds)
  | [], _, _, r, _ => by cases (show _ = [] from r); exact .nil
  | d :: ds, _, n, ⟨v, r', e, a, b⟩, o => by
    subst e
    have o : (okE n d && okEs n ds) = true := o
    rw [Bool.and_eq_true] at o
    exact .cons (dp_of h d v n a o.1) (dps_of h ds r' n b o.2)
end
mutual
theorem okE_lay : ∀ (d : D) (n : Nat), okE n d = true → (toPy d).canLay0 = true ∧ (toPy d).depth ≤ n
  | .non, _, _ => ⟨rfl, Nat.zero_le _⟩
  | .bl b, _, _ => ⟨rfl, Nat.zero_le _⟩
  | .int i, _, _ => ⟨rfl, Nat.zero_le _⟩
  | .str x, _, o => ⟨o, Nat.zero_le _⟩
  | .lst ds, n, o => by
    have o : (decide (0 < n) && okEs (n - 1) ds) = true := o
    rw [Bool.and_eq_true] at o
    obtain ⟨h1, h2⟩ := okEs_lay ds (n - 1) o.2
    have h0 := of_decide_eq_true o.1
    exact ⟨h1, by show PyData.depthAll (toPys ds) + 1 ≤ n; omega⟩
  | .rol ds, n, o => by
    have o : (decide (0 < n) && okEs (n - 1) ds) = true := o
    rw [Bool.and_eq_true] at o
    obtain ⟨h1, h2⟩ := okEs_lay ds (n - 1) o.2
    have h0 := of_decide_eq_true o.1
    exact ⟨h1, by show PyData.depthAll (toPys ds) + 1 ≤ n; omega⟩
  | .tup ds, n, o => by
    have o : (decide (0 < n) && okEs (n - 1) ds) = true := o
    rw [Bool.and_eq_true] at o
    obtain ⟨h1, h2⟩ := okEs_lay ds (n - 1) o.2
    have h0 := of_decide_eq_true o.1
    exact ⟨h1, by show PyData.depthAll (toPys ds) + 1 ≤ n; omega⟩
  | .rot ds, n, o => by
    have o : (decide (0 < n) && okEs (n - 1) ds) = true := o
    rw [Bool.and_eq_true] at o
    obtain ⟨h1, h2⟩ := okEs_lay ds (n - 1) o.2
    have h0 := of_decide_eq_true o.1
    exact ⟨h1, by show PyData.depthAll (toPys ds) + 1 ≤ n; omega⟩
  | .ty _, _, o => nomatch o
  | .cls _, _, o => nomatch o
  | .hnd _, _, o => nomatch o
  | .st _, _, o => nomatch o
  | .exc _ _ _ _, _, o => nomatch o
theorem okEs_lay : ∀ (ds : List D) (n : Nat), okEs n ds = true → PyData.canLayAll0 (toPys ds) = true ∧ PyData.depthAll (toPys ds) ≤ n
  | [], _, _ => ⟨rfl, Nat.zero_le _⟩
  | d :: ds, n, o => by
    have o : (okE n d && okEs n ds) = true := o
    rw [Bool.and_eq_true] at o
    obtain ⟨h1, h2⟩ := okE_lay d n o.1
    obtain ⟨h3, h4⟩ := okEs_lay ds n o.2
    refine ⟨?_, ?_⟩
    · show (PyData.canLay0 (toPy d) && PyData.canLayAll0 (toPys ds)) = true
      rw [h1, h3]; rfl
    · show max (PyData.depth (toPy d)) (PyData.depthAll (toPys ds)) ≤ n
      omega
end
theorem okE_shaped {d : D} (o : okE 64 d = true) : SeqAt.shaped (toPy d) = true := by
  obtain ⟨h1, h2⟩ := okE_lay d 64 o
  unfold SeqAt.shaped
  rw [h1, decide_eq_true h2]; rfl
end
/-- == of data -/
def eqD (x y : D) : Bool := PyData.eqv (toPy x) (toPy y)
def oEq : DO := fun x y m Φ => okE 64 x = true ∧ okE 64 y = true ∧ Φ (.bl (eqD x y)) m
def oNe : DO := fun x y m Φ => okE 64 x = true ∧ okE 64 y = true ∧ Φ (.bl (!eqD x y)) m
theorem opl_eq {K : PySem.W.Frag} : OpL K (rEqD K) oEq := fun w m H x y u v Q Φ h r1 r2 vl ⟨o1, o2, q⟩ => ⟨_, _, dp_of h x u 64 r1 o1, dp_of h y v 64 r2 o2, okE_shaped o1, okE_shaped o2, vl.bl h q⟩
theorem opl_ne {K : PySem.W.Frag} : OpL K (rNeD K) oNe := fun w m H x y u v Q Φ h r1 r2 vl ⟨o1, o2, q⟩ => ⟨_, _, dp_of h x u 64 r1 o1, dp_of h y v 64 r2 o2, okE_shaped o1, okE_shaped o2, vl.bl h q⟩
theorem eqD_int {i j : Int} : eqD (.int i) (.int j) = decide (i = j) := by
  show (i == j) = _
  rw [Bool.beq_eq_decide_eq]
theorem eqD_bl {i j : Bool} : eqD (.bl i) (.bl j) = decide (i = j) := by
  show (i == j) = _
  rw [Bool.beq_eq_decide_eq]
/-- is None -/
def isNon : D → Option Bool
  | .non => some true
  | .bl _ => some false
  | .int _ => some false
  | .str _ => some false
  | .lst _ => some false
  | .tup _ => some false
  | .rol _ => some false
  | .rot _ => some false
  | .hnd _ => some false
  | _ => none
def oIsN : DO := fun x y m Φ => match isNon x, y with
  | some b, .non => Φ (.bl b) m
  | _, _ => False
def oNotN : DO := fun x y m Φ => match isNon x, y with
  | some b, .non => Φ (.bl (!b)) m
  | _, _ => False
/-! subscripts -/
def oIx : DO := fun x y m Φ => match x, y with
  | .str z, .int i => z.length ≤ LIM ∧ ∃ c, atI z.cps.toList i = some c ∧ Φ (.str ⟨#[c]⟩) m
  | x, .int i => match asL m x with
    | some ds => ∃ d, atI ds i = some d ∧ Φ d m
    | none => match asT x with
      | some ds => ∃ d, atI ds i = some d ∧ Φ d m
      | none => False
  | _, _ => False
theorem atI_rep {K : PySem.W.Frag} {w : Wd} {ds : List D} {vs : List V} {i : Int} {d : D} (r : RepAll K w ds vs) (e : atI ds i = some d) : ∃ v, atI vs i = some v ∧ Rep K w d v := by
  unfold atI at e ⊢
  rw [r.length]
  cases q : ixN ds.length i with
  | none => rw [q] at e; cases e
  | some j => rw [q] at e; exact r.get e
theorem opl_ix {K : PySem.W.Frag} : OpL K (rIx K) oIx := fun w m H x y u v Q Φ h r1 r2 vl q => by
  unfold oIx at q
  split at q
  · obtain ⟨z, c, e, q⟩ := q
    exact .inr (.inr ⟨_, _, c, r1, r2, lim_sz z, e, vl.str h q⟩)
  · split at q
    · rename_i e
      obtain ⟨d, e2, q⟩ := q
      obtain ⟨a, us, rfl, ha, ra⟩ := asL_ok h e r1
      obtain ⟨v', e3, rd⟩ := atI_rep ra e2
      exact .inl ⟨a, us, _, v', rfl, r2, ha, e3, vl d m w H v' (.refl w) h rd q⟩
    · split at q
      · rename_i e
        obtain ⟨d, e2, q⟩ := q
        obtain ⟨a, us, rfl, ha, ra⟩ := asT_ok h e r1
        obtain ⟨v', e3, rd⟩ := atI_rep ra e2
        exact .inr (.inl ⟨a, us, _, v', rfl, r2, ha, e3, vl d m w H v' (.refl w) h rd q⟩)
      · exact q.elim
  · exact q.elim
section
variable {X : Cx} {E : WX} {a b c : Expr} {Wa Wb Wc : DE} {pos : Pos}
theorem je_ix (ha : JE X E a Wa) (hb : JE X E b Wb) (hs : PlainIx b := by exact fun _ _ => rfl) : JE X E (.Subscript a b pos) (dOp oIx Wa Wb) := PE.imp (pe_ix ix_seq ha hb hs) fun _ _ _ h => dOp_ok opl_ix h
/-- xs[lo:hi] -/
abbrev DPt := Env → MM → (Option Int → MM → Prop) → XP → Prop
def liftO (K : PySem.W.Frag) (E : WX) (W : DPt) : TO := fun σ H Q => ∃ w ρ m Ψ Φ, At K E w σ H ρ m Ψ ∧ (∀ o m' w' H', w.le w' → HRep K w' m' H' → Φ o m' → Q o H') ∧ W ρ m Φ Ψ
abbrev JO (X : Cx) (E : WX) (e : Option Expr) (W : DPt) : Prop := PO X e (liftO X.K E W)
theorem PO.imp {e : Option Expr} {t t' : TO} (h : PO X e t) (i : ∀ σ H Q, t' σ H Q → t σ H Q) : PO X e t' := ⟨fun pins s σ H Q I q => h.run pins s σ H Q I (i σ H Q q)⟩
def dpN : DPt := fun _ m Φ _ => Φ none m
def dpS (e : DE) : DPt := fun ρ m Φ Ψ => e ρ m (fun d m1 => match d with
  | .int i => Φ (some i) m1
  | _ => False) Ψ
theorem jo_none : JO X E none dpN := PO.imp po_none fun σ H Q ⟨w, ρ, m, Ψ, Φ, a, n, h⟩ => n none m w H (.refl w) a.h h
theorem jo_some (h : JE X E a Wa) : JO X E (some a) (dpS Wa) := PO.imp (po_some h) fun σ H Q ⟨w, ρ, m, Ψ, Φ, a, n, h⟩ => by
  refine ⟨w, ρ, m, Ψ, _, a, fun d m1 w1 H1 v l1 h1 r1 q1 => ?_, h⟩
  cases d with
  | int i => exact ⟨i, r1, n (some i) m1 w1 H1 l1 h1 q1⟩
  | _ => exact False.elim q1
def cutD (xs : List D) (lo hi : Option Int) : List D := (xs.drop (HT.sIx xs.length 0 lo)).take (HT.sIx xs.length xs.length hi - HT.sIx xs.length 0 lo)
theorem cut_rep {K : PySem.W.Frag} {w : Wd} {ds : List D} {vs : List V} (r : RepAll K w ds vs) (lo hi : Option Int) : RepAll K w (cutD ds lo hi) (cutV vs lo hi) := by
  unfold cutD cutV
  rw [r.length]
  exact (r.drop _).take _
def dSl (a : DE) (lo hi : DPt) : DE := fun ρ m Φ Ψ => a ρ m (fun d m1 => lo ρ m1 (fun l m2 => hi ρ m2 (fun u m3 => match asL m3 d with
  | some ds => Φ (.lst (cutD ds l u)) m3
  | none => False) Ψ) Ψ) Ψ
theorem je_sl {lo hi : Option Expr} {Wl Wh : DPt} {p2 : Pos} (ha : JE X E a Wa) (hl : JO X E lo Wl) (hh : JO X E hi Wh) : JE X E (.Subscript a (.Slice lo hi none p2) pos) (dSl Wa Wl Wh) := PE.imp (pe_slice sl_list ha hl hh) fun σ H Q ⟨w, ρ, m, Ψ, Φ, a, vl, h⟩ => by
  refine ⟨w, ρ, m, Ψ, _, a, fun d m1 w1 H1 v l1 h1 r1 q1 => ?_, h⟩
  refine ⟨w1, ρ, m1, Ψ, _, a.to l1 h1, fun o m2 w2 H2 l2 h2 q2 => ?_, q1⟩
  refine ⟨w2, ρ, m2, Ψ, _, a.to (l1.trans l2) h2, fun u m3 w3 H3 l3 h3 q3 => ?_, q2⟩
  split at q3
  · rename_i ds e
    obtain ⟨a, us, rfl, ha, ra⟩ := asL_ok h3 e (Rep.mono (l2.trans l3) _ _ r1)
    exact ⟨a, us, rfl, ha, fun p hp => (vl.mono (l1.trans (l2.trans l3))).newL h3 hp (cut_rep ra _ _) q3⟩
  · exact q3.elim
end
end Dl

namespace Dl
open PySem L2 PyProof.Rows

/-! ### comprehensions -/
abbrev XF : XP := fun _ _ _ => False
abbrev EF : WX := fun _ _ _ _ => False
def wipeD (ρ : Env) : List Nat → Env
  | [] => ρ
  | v :: vs => (wipeD ρ vs).set v none
theorem Slots.wipes {K : PySem.W.Frag} {w : Wd} {σ : L2.St} {ρ : Env} (h : Slots K w σ ρ) : ∀ vs, Slots K w (L2.wipe σ vs) (wipeD ρ vs)
  | [] => h
  | v :: vs => (Slots.wipes h vs).wipe v
def lcW (g : DG) (tt : DT) (te : DE) (ρ : Env) (Φ : D → MM → Prop) : List D → List D → MM → Prop
  | [], acc, m => Φ (.lst acc) m
  | d :: ds, acc, m => g d ρ (m.push (.lst acc)) fun ρ1 m1 => m1 = m.push (.lst acc) ∧ tt ρ1 (m.push (.lst acc)) (fun b m2 => m2 = m.push (.lst acc) ∧ if b = true then
      te ρ1 (m.push (.lst acc)) (fun y m3 => m3 = m.push (.lst acc) ∧ acc.length < LIM ∧ clD m.M.length y = true ∧ lcW g tt te ρ Φ ds (acc ++ [y]) m) XF
    else lcW g tt te ρ Φ ds acc m) XF
def dLc (it : DI) (g : DG) (tt : DT) (te : DE) (vs : List Nat) : DE := fun ρ m Φ Ψ => it ρ m (fun ds m1 => lcW g tt te (wipeD ρ vs) Φ ds [] m1) Ψ
def dYes : DT := fun _ m Φ _ => Φ true m
theorem xlift_F {K : PySem.W.Frag} {w : Wd} {E : WX} {σ : L2.St} : XLift K w E σ XF := fun _ _ _ _ _ _ _ _ _ _ _ q => q.elim
theorem clAll_app {n : Nat} : ∀ {xs ys : List D}, clAll n xs = true → clAll n ys = true → clAll n (xs ++ ys) = true
  | [], ys, _, h => h
  | x :: xs, ys, h, g => by
    have h : (clD n x && clAll n xs) = true := h
    rw [Bool.and_eq_true] at h
    show (clD n x && clAll n (xs ++ ys)) = true
    rw [h.1, clAll_app h.2 g]; rfl
theorem lc_ok {K : PySem.W.Frag} {E : WX} {wi : DI} {g : DG} {tt : DT} {te : DE} {vs : List Nat} {σ : L2.St} {H : Hp} {Q : VK} (h : lift K E (dLc wi g tt te vs) σ H Q) : tLc (liftI K E wi) (liftG K vs g) (liftT K EF tt) (lift K EF te) vs σ H Q := by
  obtain ⟨w, ρ, m, Ψ, Φ, a, vl, h⟩ := h
  refine ⟨w, ρ, m, Ψ, _, a, fun ds m1 w1 H1 J l1 h1 wk q1 => ?_, h⟩
  intro D hD
  refine ⟨fun i k H => k = ds.length - i ∧ i ≤ ds.length ∧ ∃ w' acc, w1.le w' ∧ HRep K w' (m1.push (.lst acc)) H ∧ w'.th[m1.M.length]? = some D ∧ clAll m1.M.length acc = true ∧ lcW g tt te (wipeD ρ vs) Φ (ds.drop i) acc m1, ⟨ds.length, by omega, Nat.zero_le _, w1.add D, [], Wd.le_add, h1.add hD ⟨[], upd_same, rfl⟩, ?_, rfl, q1⟩, ?_⟩
  · show (w1.th ++ [D])[m1.M.length]? = some D
    rw [← h1.len, List.getElem?_append_right (Nat.le_refl _)]; simp
  rintro i k H2 ⟨rfl, hi, w2, acc, l2, h2, hD2, hcl, q2⟩
  by_cases hlt : i < ds.length
  · have ed : ds[i]? = some ds[i] := List.getElem?_eq_getElem hlt
    have dr : ds.drop i = ds[i] :: ds.drop (i + 1) := List.drop_eq_getElem_cons hlt
    rw [dr] at q2
    refine .inr ⟨wk.go w2 _ H2 i _ l2 h2 ed, fun H' => ∃ w' acc, w1.le w' ∧ HRep K w' (m1.push (.lst acc)) H' ∧ w'.th[m1.M.length]? = some D ∧ clAll m1.M.length acc = true ∧ lcW g tt te (wipeD ρ vs) Φ (ds.drop (i + 1)) acc m1, fun H' z => ⟨ds.length - (i + 1), by omega, rfl, hlt, z⟩, fun x H3 y => ?_⟩
    obtain ⟨w3, l3, h3, r3⟩ := wk.yld w2 _ H2 i _ x H3 l2 h2 ed y
    have s3 : Slots K w3 (wipe σ vs) (wipeD ρ vs) := ((a.s.mono l1).mono (l2.trans l3)).wipes vs
    refine ⟨w3, wipeD ρ vs, _, ds[i], _, h3, s3, r3, fun ρ' m' w' H' σ' l h' s' e q => ⟨e.trans wipe_wipe, ?_⟩, q2⟩
    obtain ⟨rfl, q⟩ := q
    refine ⟨w', ρ', _, XF, _, ⟨h', s', xlift_F⟩, fun b m4 w4 H4 l4 h4 q4 => ?_, q⟩
    obtain ⟨rfl, q4⟩ := q4
    have l24 : w2.le w4 := l3.trans (l.trans l4)
    cases b with
    | true =>
      rw [if_pos rfl] at q4
      show (if true = true then _ else _)
      rw [if_pos rfl]
      refine ⟨w4, ρ', _, XF, _, ⟨h4, s'.mono l4, xlift_F⟩, fun y m5 w5 H5 v l5 h5 r5 q5 => ?_, q4⟩
      obtain ⟨rfl, hz, hy, q5⟩ := q5
      have hD5 : w5.th[m1.M.length]? = some D := l5.th _ _ (l24.th _ _ hD2)
      have hM : (m1.push (.lst acc)).M[m1.M.length]? = some (.lst acc) := by
        show (m1.M ++ [MO.lst acc])[m1.M.length]? = _
        rw [List.getElem?_append_right (Nat.le_refl _)]; simp
      obtain ⟨xs, hx, r⟩ := h5.obj _ D _ hD5 hM
      refine ⟨xs, hx, lim_lt (by rw [r.length]; exact hz), w5, acc ++ [y], l2.trans (l24.trans l5), ?_, hD5, clAll_app hcl (by show (clD _ y && true) = true; rw [hy]; rfl), q5⟩
      have z := h5.wr (ho := .lst (xs ++ [v])) (o' := .lst (acc ++ [y])) hD5 hM (fun z => by cases z) ⟨_, upd_same, r.append ⟨v, [], rfl, r5, rfl⟩⟩
      have e : (m1.push (.lst acc)).M.set m1.M.length (.lst (acc ++ [y])) = (m1.push (.lst (acc ++ [y]))).M := by
        show (m1.M ++ [MO.lst acc]).set m1.M.length (.lst (acc ++ [y])) = m1.M ++ [MO.lst (acc ++ [y])]
        rw [List.set_append_right _ _ (Nat.le_refl _)]; simp
      rw [e] at z
      exact z
    | false =>
      rw [if_neg Bool.false_ne_true] at q4
      show (if false = true then _ else _)
      rw [if_neg Bool.false_ne_true]
      exact ⟨w4, acc, l2.trans l24, h4, l24.th _ _ hD2, hcl, q4⟩
  · have e : i = ds.length := by omega
    subst e
    rw [List.drop_length] at q2
    refine .inl ⟨wk.stop w2 _ H2 l2 h2, ?_⟩
    have hM : (m1.push (.lst acc)).M[m1.M.length]? = some (.lst acc) := by
      show (m1.M ++ [MO.lst acc])[m1.M.length]? = _
      rw [List.getElem?_append_right (Nat.le_refl _)]; simp
    obtain ⟨xs, fD, hx, r, hf⟩ := h2.frz hD2 hM
    have et : ((m1.push (.lst acc)).M.set m1.M.length .dead).take m1.M.length = m1.M := by
      show ((m1.M ++ [MO.lst acc]).set m1.M.length .dead).take m1.M.length = m1.M
      rw [List.set_append_right _ _ (Nat.le_refl _), List.take_left']
      rfl
    have hc := hf.cut (n := m1.M.length) (fun o ho => by
      have ho : o ∈ ((m1.push (.lst acc)).M.set m1.M.length .dead).take m1.M.length := ho
      rw [et] at ho
      exact h1.cls o ho)
    have em : (MM.cut ⟨(m1.push (.lst acc)).M.set m1.M.length .dead, (m1.push (.lst acc)).s⟩ m1.M.length) = m1 := by
      show (⟨((m1.push (.lst acc)).M.set m1.M.length .dead).take m1.M.length, m1.s⟩ : MM) = m1
      rw [et]
    rw [em] at hc
    have lc : w1.le ((w2.put D (.lst xs)).cut m1.M.length) := Wd.le_cut (l2.trans (Wd.le_put fD)) (Nat.le_of_eq h1.len)
    refine vl (.lst acc) m1 _ H2 _ (l1.trans lc) hc ?_ q2
    exact ⟨D, xs, rfl, upd_same, RepAll.cut _ _ (RepAll.mono (Wd.le_put fD) _ _ r) hcl⟩
section
variable {X : Cx} {E : WX} {a b c : Expr} {Wa Wb Wc : DE} {pos : Pos}
theorem jts_nil {K : PySem.W.Frag} : PTs X [] (liftT K E dYes) := ⟨fun pins s σ H Q I ⟨w, ρ, m, Ψ, Φ, a, n, h⟩ => pts_nil.run pins s σ H Q I (n true m w H (.refl w) a.h h)⟩
theorem je_lc {elt tg iter : Expr} {ifs : List Expr} {scope : Scope} {own : List (Str × Nat)} {pos : Pos} {wi : DI} {g : DG} {tt : DT} {te : DE} (hc : X.calm = true) (hN : X.N.Nodup) (hi : JI X E tg iter wi) (ok : BlkOk X.N X.env.scope scope own)
    (hg : ∀ (s : Shared) (H : Hp) (C : Addr) (cl : List (Str × Addr)) (fp : List Addr), PG (X.blk s H scope (compEnvC scope cl C X.env) fp) tg (liftG X.K (own.map (·.2)) g))
    (ht : ∀ (s : Shared) (H : Hp) (C : Addr) (cl : List (Str × Addr)) (fp : List Addr), PTs (X.blk s H scope (compEnvC scope cl C X.env) fp) ifs (liftT X.K EF tt))
    (he : ∀ (s : Shared) (H : Hp) (C : Addr) (cl : List (Str × Addr)) (fp : List Addr), JE (X.blk s H scope (compEnvC scope cl C X.env) fp) EF elt te) (hs : ∀ x, foldedSetIterable iter X.env x = pure x := by intro _; rfl) :
    JE X E (.ListComp elt [⟨tg, iter, ifs, 0⟩] scope pos) (dLc wi g tt te (own.map (·.2))) := PE.imp (pe_lc hc hN hi ok hg ht he hs) fun _ _ _ h => lc_ok h
/-! ### calls of built-ins -/
abbrev DCB := List D → MM → (D → MM → Prop) → Prop
def CbL (K : PySem.W.Frag) (r : List V → Hp → VK → Prop) (c : DCB) : Prop := ∀ w m H ds vs Q Φ, HRep K w m H → RepAll K w ds vs → VLift K w Q Φ → c ds m Φ → r vs H Q
def dCB (c : DCB) (r : DA) : DE := fun ρ m Φ Ψ => r ρ m (fun ds m1 => c ds m1 Φ) Ψ
variable {e : Expr} {es : List Expr} {x : Str} {p : Pos} {Ws : DA} {r : List V → Hp → VK → Prop} {cb : DCB}
theorem je_callB {id : String} (hc : CallR X (.builtin id) r) (hl : CbL X.K r cb) (hg : Gl X x) (hm : X.mg x = none) (hv : bootBuiltins x = some (.builtin id)) (ha : JA X E (e :: es) Ws) (hn : x ≠ "__name__" := by decide) (hdb : (x == ("__debug__" : Str)) = false := by decide)
    (he : starEach (e :: es) X.env = (false, eval e X.env) :: starEach es X.env := by rfl) (hpl : (backTo pos (starEach es X.env)).any (·.1) = false := by rfl) : JE X E (.Call (.Name x p) (e :: es) [] pos) (dCB cb Ws) :=
  PE.imp (pe_callB hc hg hm hv ha hn hdb he hpl) fun σ H Q ⟨w, ρ, m, Ψ, Φ, a, vl, h⟩ => ⟨w, ρ, m, Ψ, _, a, fun ds m1 w1 H1 vs l1 h1 r1 q1 => hl w1 m1 H1 ds vs Q Φ h1 r1 (vl.mono l1) q1, h⟩
theorem je_callTy {T : String} (hc : CallR X (.type T) r) (hl : CbL X.K r cb) (hg : Gl X x) (hm : X.mg x = none) (hv : bootBuiltins x = some (.type T)) (ha : JA X E (e :: es) Ws) (hn : x ≠ "__name__" := by decide) (hdb : (x == ("__debug__" : Str)) = false := by decide)
    (he : starEach (e :: es) X.env = (false, eval e X.env) :: starEach es X.env := by rfl) (hpl : (backTo pos (starEach es X.env)).any (·.1) = false := by rfl) : JE X E (.Call (.Name x p) (e :: es) [] pos) (dCB cb Ws) :=
  PE.imp (pe_callTy hc hg hm hv ha hn hdb he hpl) fun σ H Q ⟨w, ρ, m, Ψ, Φ, a, vl, h⟩ => ⟨w, ρ, m, Ψ, _, a, fun ds m1 w1 H1 vs l1 h1 r1 q1 => hl w1 m1 H1 ds vs Q Φ h1 r1 (vl.mono l1) q1, h⟩
end
def cLen : DCB := fun ds m Φ => match ds with
  | [.str z] => z.length ≤ LIM ∧ Φ (.int z.length) m
  | [d] => match asL m d with
    | some xs => Φ (.int xs.length) m
    | none => match asT d with
      | some xs => Φ (.int xs.length) m
      | none => False
  | _ => False
theorem cbl_len {K : PySem.W.Frag} : CbL K (fun xs H Q => ∃ x n, xs = [x] ∧ LenV K x H n ∧ Q (.int n) H) cLen := fun w m H ds vs Q Φ h r vl q => by
  unfold cLen at q
  split at q
  · obtain ⟨v, rfl, rv⟩ := rep1 r
    cases (show v = V.str _ from rv)
    exact ⟨_, _, rfl, ⟨lim_sz q.1, rfl⟩, vl.int h q.2⟩
  · obtain ⟨v, rfl, rv⟩ := rep1 r
    split at q
    · rename_i e
      obtain ⟨a, us, rfl, ha, ra⟩ := asL_ok h e rv
      exact ⟨_, _, rfl, .inl ⟨us, ha, rfl⟩, vl.int h (by rw [ra.length]; exact q)⟩
    · split at q
      · rename_i e
        obtain ⟨a, us, rfl, ha, ra⟩ := asT_ok h e rv
        exact ⟨_, _, rfl, .inr ⟨us, ha, rfl⟩, vl.int h (by rw [ra.length]; exact q)⟩
      · exact q.elim
  · exact q.elim
def cInt : DCB := fun ds m Φ => match ds with
  | [.int i] => Φ (.int i) m
  | [.bl b] => Φ (.int (if b then 1 else 0)) m
  | _ => False
theorem cbl_int {K : PySem.W.Frag} : CbL K (fun xs H Q => (∃ i, xs = [V.int i] ∧ Q (.int i) H) ∨ ∃ k, xs = [V.bl k] ∧ Q (.int (if k then 1 else 0)) H) cInt := fun w m H ds vs Q Φ h r vl q => by
  unfold cInt at q
  split at q
  · obtain ⟨v, rfl, rv⟩ := rep1 r
    cases (show v = V.int _ from rv)
    exact .inl ⟨_, rfl, vl.int h q⟩
  · obtain ⟨v, rfl, rv⟩ := rep1 r
    cases (show v = V.bl _ from rv)
    exact .inr ⟨_, rfl, vl.int h q⟩
  · exact q.elim
def cAbs : DCB := fun ds m Φ => match ds with
  | [.int i] => Φ (.int (if i < 0 then -i else i)) m
  | _ => False
theorem cbl_abs {K : PySem.W.Frag} : CbL K (fun xs H Q => ∃ i, xs = [V.int i] ∧ Q (.int (if i < 0 then -i else i)) H) cAbs := fun w m H ds vs Q Φ h r vl q => by
  unfold cAbs at q
  split at q
  · obtain ⟨v, rfl, rv⟩ := rep1 r
    cases (show v = V.int _ from rv)
    exact ⟨_, rfl, vl.int h q⟩
  · exact q.elim
def intsD : List D → Option (List Int)
  | [] => some []
  | .int i :: r => (intsD r).map (i :: ·)
  | _ => none
theorem ints_ok {K : PySem.W.Frag} {w : Wd} : ∀ {ds : List D} {vs : List V} {ns : List Int}, intsD ds = some ns → RepAll K w ds vs → vs = ns.map V.int
  | [], vs, ns, e, r => by cases e; exact r
  | d :: ds, vs, ns, e, r => by
    obtain ⟨v, r', rfl, rv, rr⟩ := r
    cases d with
    | int i =>
      have e : (intsD ds).map (i :: ·) = some ns := e
      cases q : intsD ds with
      | none => rw [q] at e; cases e
      | some ns' =>
        rw [q] at e; cases e
        cases (show v = V.int i from rv)
        rw [ints_ok q rr]; rfl
    | _ => cases e
theorem ints_map : ∀ (ns : List Int), intsD (ns.map D.int) = some ns
  | [] => rfl
  | n :: ns => by
    show (intsD (ns.map D.int)).map (n :: ·) = _
    rw [ints_map ns]; rfl
def cSum : DCB := fun ds m Φ => match ds with
  | [d] => match asL m d with
    | some xs => ∃ ns, intsD xs = some ns ∧ Φ (.int ns.sum) m
    | none => False
  | _ => False
def cMax2 : DCB := fun ds m Φ => match ds with
  | [.int i, .int j] => Φ (.int (if j > i then j else i)) m
  | _ => False
def cMin2 : DCB := fun ds m Φ => match ds with
  | [.int i, .int j] => Φ (.int (if j < i then j else i)) m
  | _ => False
theorem cbl_max2 {K : PySem.W.Frag} : CbL K (fun xs H Q => ∃ i j, xs = [V.int i, V.int j] ∧ Q (.int (if j > i then j else i)) H) cMax2 := fun w m H ds vs Q Φ h r vl q => by
  unfold cMax2 at q
  split at q
  · obtain ⟨v, u, rfl, rv, ru⟩ := rep2 r
    cases (show v = V.int _ from rv)
    cases (show u = V.int _ from ru)
    exact ⟨_, _, rfl, vl.int h q⟩
  · exact q.elim
/-- list(x): a new list, frozen or changing -/
def cList : DCB := fun ds m Φ => match ds with
  | [d] => match asL m d with
    | some xs => Φ (.lst xs) m
    | none => match asT d with
      | some xs => Φ (.lst xs) m
      | none => False
  | _ => False
end Dl

namespace Dl
open PySem L2 PyProof.Rows

/-! ### isinstance -/
def tyD (m : MM) : D → Option String
  | .non => some "NoneType"
  | .bl _ => some "bool"
  | .int _ => some "int"
  | .str _ => some "str"
  | .lst _ => some "list"
  | .tup _ => some "tuple"
  | .hnd k => (moL m.M[k]?).map fun _ => "list"
  | _ => none
def cIsi : DCB := fun ds m Φ => match ds with
  | [x, .ty n] => match (tyD m x).bind fun t => kitB t n with
    | some b => Φ (.bl b) m
    | none => False
  | _ => False
section
variable {X : Cx} {E : WX} {a b c : Expr} {Wa Wb Wc : DE} {pos : Pos} {e : Expr} {es : List Expr} {Ws : DA}
/-! ### methods of lists -/
def dMethL (c : D → List D → MM → (D → MM → Prop) → Prop) (o : DE) (r : DA) : DE := fun ρ m Φ Ψ => o ρ m (fun x m1 => (asL m1 x).isSome = true ∧ r ρ m1 (fun ds m2 => c x ds m2 Φ) Ψ) Ψ
def MtL (K : PySem.W.Frag) (r : V → List V → Hp → VK → Prop) (c : D → List D → MM → (D → MM → Prop) → Prop) : Prop := ∀ w m H x ds u vs Q Φ, HRep K w m H → Rep K w x u → RepAll K w ds vs → VLift K w Q Φ → c x ds m Φ → r u vs H Q
theorem tyL_ok {K : PySem.W.Frag} {w : Wd} {m : MM} {H : Hp} {d : D} {v : V} (h : HRep K w m H) (e : (asL m d).isSome = true) (r : Rep K w d v) : tyV K "list" v H := by
  obtain ⟨ds, e⟩ := Option.isSome_iff_exists.mp e
  obtain ⟨a, xs, rfl, q, _⟩ := asL_ok h e r
  exact .inl ⟨rfl, xs, q⟩
theorem je_mL {name : Str} {id : String} {r : V → List V → Hp → VK → Prop} {c : D → List D → MM → (D → MM → Prop) → Prop} {apos cpos : Pos} {o : Expr} {Wo : DE} (slot : Slot "list" name id) (hty : typeOf (.builtin id) = pure (.type "method_descriptor")) (hm : MtR X id r) (hl : MtL X.K r c) (ho : JE X E o Wo) (ha : JA X E (e :: es) Ws)
    (hbase : attributeBase o name X.env (eval o X.env) = eval o X.env := by rfl)
    (hfew : ((backTo cpos (starEach (e :: es) X.env)).all (fun x => !x.1) && (backToKw cpos (keywordEach [] X.env)).all (fun x => x.1.isSome)
      && decide ((e :: es).length + ([] : List Keyword).length + (if ([] : List Keyword).isEmpty then 0 else 1) < 30)) = true := by rfl)
    (hline : (apos.endLine == cpos.line) = true := by rfl) (hs : starEach (e :: es) X.env = (false, eval e X.env) :: starEach es X.env := by rfl) (hplain : (backTo cpos (starEach es X.env)).any (·.1) = false := by rfl) :
    JE X E (.Call (.Attribute o name apos) (e :: es) [] cpos) (dMethL c Wo Ws) := PE.imp (pe_bm PySem.F.plainAttrs_list slot hty hm ho ha hbase hfew hline hs hplain) fun σ H Q ⟨w, ρ, m, Ψ, Φ, a, vl, h⟩ => by
  refine ⟨w, ρ, m, Ψ, _, a, fun d m1 w1 H1 v l1 h1 r1 q1 => ?_, h⟩
  refine ⟨tyL_ok h1 q1.1 r1, w1, ρ, m1, Ψ, _, a.to l1 h1, fun ds m2 w2 H2 vs l2 h2 r2 q2 => ?_, q1.2⟩
  exact hl w2 m2 H2 d ds v vs Q Φ h2 (Rep.mono l2 _ _ r1) r2 (vl.mono (l1.trans l2)) q2
end
theorem VLift.wr {K : PySem.W.Frag} {w : Wd} {m : MM} {H : Hp} {Q : VK} {Φ : D → MM → Prop} {k : Nat} {a : Addr} {ds ds' : List D} {xs' : List V} {d : D} {v : V} (vl : VLift K w Q Φ) (h : HRep K w m H) (e : w.th[k]? = some a) (eo : m.M[k]? = some (.lst ds)) (r : RepAll K w ds' xs')
    (rd : Rep K w d v) (q : Φ d ⟨m.M.set k (.lst ds'), m.s⟩) : Q v (upd H a (.lst xs')) :=
  vl d _ w _ v (.refl w) (h.wr (o' := .lst ds') e eo (fun z => by cases z) ⟨xs', upd_same, r⟩) rd q
def oApp : D → List D → MM → (D → MM → Prop) → Prop := fun x ds m Φ => match x, ds with
  | .hnd k, [y] => match moL m.M[k]? with
    | some xs => xs.length < LIM ∧ Φ .non ⟨m.M.set k (.lst (xs ++ [y])), m.s⟩
    | none => False
  | _, _ => False
theorem mtl_app {K : PySem.W.Frag} : MtL K rAppend oApp := fun w m H x ds u vs Q Φ h r rs vl q => by
  unfold oApp at q
  split at q
  · split at q
    · rename_i k y _ xs e
      obtain ⟨a, rfl, q2⟩ := r
      obtain ⟨v, rfl, rv⟩ := rep1 rs
      obtain ⟨us, hx, ru⟩ := h.obj k a _ q2 (moL_eq e)
      exact ⟨a, us, v, rfl, rfl, hx, lim_lt (by rw [ru.length]; exact q.1), vl.wr (ds' := xs ++ [y]) (d := .non) h q2 (moL_eq e) (ru.append ⟨v, [], rfl, rv, rfl⟩) rfl q.2⟩
    · exact q.elim
  · exact q.elim
def oPop : D → List D → MM → (D → MM → Prop) → Prop := fun x ds m Φ => match x, ds with
  | .hnd k, [] => match moL m.M[k]? with
    | some xs => ∃ y, xs[xs.length - 1]? = some y ∧ Φ y ⟨m.M.set k (.lst xs.dropLast), m.s⟩
    | none => False
  | _, _ => False
theorem RepAll.dropLast {K : PySem.W.Frag} {w : Wd} {ds : List D} {vs : List V} (r : RepAll K w ds vs) : RepAll K w ds.dropLast vs.dropLast := by
  rw [List.dropLast_eq_take, List.dropLast_eq_take, r.length]
  exact r.take _
theorem RepAll.eraseIdx {K : PySem.W.Frag} {w : Wd} {ds : List D} {vs : List V} (r : RepAll K w ds vs) (i : Nat) : RepAll K w (ds.eraseIdx i) (vs.eraseIdx i) := by
  rw [List.eraseIdx_eq_take_drop_succ, List.eraseIdx_eq_take_drop_succ]
  exact (r.take i).append (r.drop (i + 1))
def oPopAt : D → List D → MM → (D → MM → Prop) → Prop := fun x ds m Φ => match x, ds with
  | .hnd k, [.int i] => match moL m.M[k]? with
    | some xs => (-(2 ^ 63) ≤ i ∧ i < 2 ^ 63) ∧ ∃ j y, seqIndex? i xs.length = some j ∧ xs[j]? = some y ∧ Φ y ⟨m.M.set k (.lst (xs.eraseIdx j)), m.s⟩
    | none => False
  | _, _ => False
section
variable {X : Cx} {E : WX} {a b c : Expr} {Wa Wb Wc : DE} {pos : Pos} {e : Expr} {es : List Expr} {Ws : DA}
/-- o[i] = e -/
def dSetIx (e o i : DE) : DS := fun N Ψ ρ m => e ρ m (fun v m1 => o ρ m1 (fun x m2 => i ρ m2 (fun j m3 => match x, j with
  | .hnd k, .int j => match moL m3.M[k]? with
    | some xs => ∃ n, ixN xs.length j = some n ∧ N.nx ρ ⟨m3.M.set k (.lst (xs.set n v)), m3.s⟩
    | none => False
  | _, _ => False) (Ψ ρ)) (Ψ ρ)) (Ψ ρ)
theorem js_setIx {o i : Expr} {Wo Wi : DE} {p1 : Pos} (he : JE X E a Wa) (ho : JE X E o Wo) (hi : JE X E i Wi) (h0 : PG X (.Subscript o i p1) (gSub (lift X.K E Wo) (lift X.K E Wi) rSetL))
    (hs : swapsWithSole [.Subscript o i p1] a pos.line X.env = pure false := by rfl) (hw : swappedStores [.Subscript o i p1] a X.env = pure none := by rfl) (h1 : (assignEach [.Subscript o i p1] X.env).map (·.2) = [assign (.Subscript o i p1) X.env] := by rfl) :
    JS X E (.Assign [.Subscript o i p1] a pos) (dSetIx Wa Wo Wi) := PS.imp (ps_asg he h0 hs hw h1) fun D σ H ⟨w, ρ, m, Ψ, N, a, n, h⟩ => by
  refine ⟨w, ρ, m, Ψ ρ, _, a.at, fun d m1 w1 H1 v l1 h1 r1 q1 => ?_, h⟩
  have a1 := a.to l1 h1
  refine ⟨w1, ρ, m1, Ψ ρ, _, a1.at, fun x m2 w2 H2 u l2 h2 r2 q2 => ?_, q1⟩
  refine ⟨w2, ρ, m2, Ψ ρ, _, (a1.to l2 h2).at, fun j m3 w3 H3 y l3 h3 r3 q3 => ?_, q2⟩
  split at q3
  · split at q3
    · rename_i k j _ xs e
      obtain ⟨nn, en, q⟩ := q3
      obtain ⟨b, rfl, q2⟩ := Rep.mono l3 _ _ r2
      cases (show y = V.int j from r3)
      obtain ⟨us, hx, ru⟩ := h3.obj k b _ q2 (moL_eq e)
      refine ⟨b, us, j, nn, rfl, rfl, hx, by rw [ru.length]; exact en, ?_⟩
      have l13 := l1.trans (l2.trans l3)
      exact n.nx ρ _ w3 _ σ l13 (h3.wr (o' := .lst (xs.set nn d)) q2 (moL_eq e) (fun z => by cases z) ⟨_, upd_same, ru.set nn (Rep.mono (l2.trans l3) _ _ r1)⟩) (a.s.mono l13) q
    · exact q3.elim
  · exact q3.elim
end

/-! ### a def by its body -/
theorem slots_start {K : PySem.W.Frag} {w : Wd} {ds : List D} {vs : List V} {N : List Str} (r : RepAll K w ds vs) : Slots K w (L2.start N vs) (ds.map some ++ List.replicate (N.length - ds.length) none) := by
  unfold L2.start
  refine ⟨by simp [r.length], fun i d e => ?_⟩
  have hi : i < ds.length := by
    rcases Nat.lt_or_ge i ds.length with h | h
    · exact h
    · rw [List.getElem?_append_right (by simpa using h), List.getElem?_replicate] at e
      split at e <;> cases e
  rw [List.getElem?_append_left (by simpa using hi), List.getElem?_map] at e
  cases q : ds[i]? with
  | none => rw [q] at e; cases e
  | some d' =>
    rw [q] at e; cases e
    obtain ⟨v, ev, rv⟩ := r.get q
    refine ⟨v, ?_, rv⟩
    rw [List.getElem?_append_left (by simpa [r.length] using hi), List.getElem?_map, ev]; rfl
section
variable {P : Program} {w : World} {K : PySem.W.Frag} {mg : Str → Option Value} {base : Heap}
abbrev wishE (E : XK) : WX := fun cls d _ H => E cls d H
theorem takesD {N : List Str} {qual : Str} {st : Stmt} {f : Addr} {cdv : Value} {A : Around} {outer : List PySem.Env} {s : Shared} {H : Hp} {E : XK} : Takes (cxOf (L2.CX P w) P w K mg base N qual (defScope st) f cdv A outer s H E) (wishE E) := takes_of rfl rfl rfl rfl
theorem passD {N : List Str} {qual : Str} {st : Stmt} {f : Addr} {cdv : Value} {A : Around} {outer : List PySem.Env} {s : Shared} {H : Hp} {E : XK} :
    PassesOwn (model (cxOf (L2.CX P w) P w K mg base N qual (defScope st) f cdv A outer s H E).prog (cxOf (L2.CX P w) P w K mg base N qual (defScope st) f cdv A outer s H E).w) (cxOf (L2.CX P w) P w K mg base N qual (defScope st) f cdv A outer s H E).A
      (cxOf (L2.CX P w) P w K mg base N qual (defScope st) f cdv A outer s H E).env (cxOf (L2.CX P w) P w K mg base N qual (defScope st) f cdv A outer s H E).xe := passes_of rfl
theorem okD {x qual : Str} {st : Stmt} {f : Addr} {fd : FuncData} {N ps : List Str} {k : Nat} {C : DC} {W : DS} (F : Fun K x qual st f fd) (S : FnScope N ps (defScope st))
    (hb : ∀ (cdv : Value) (A : Around) (outer : List PySem.Env) (s : Shared) (H : Hp) (E : XK), Room k (A.deeper (envOfC qual (defScope st) s.heap.objs.size f cdv)) → JSs (cxOf (L2.CX P w) P w K mg base N qual (defScope st) f cdv A outer s H E) (wishE E) (defBody st) W)
    (hC : ∀ ds m Φ Ψ, ds.length = ps.length → C ds m Φ Ψ → W { nx := fun _ m' => Φ .non m', rt := Φ } (fun _ => Ψ) (ds.map some ++ List.replicate (N.length - ds.length) none) m) :
    FnOk P w K mg base (L2.CX P w) (k + 1) f fd ps (spOf K ps.length C) := by
  refine F.okX S (fun vs H Q E h => h.1) fun cdv A outer s H vs Q E hr h => ⟨_, hb cdv A outer s H E hr, ?_⟩
  obtain ⟨hl, w0, ds, m, Φ, Ψ, h0, r, vl, xl, c⟩ := h
  have hd : ds.length = ps.length := r.length.symm.trans hl
  refine ⟨w0, _, m, fun _ => Ψ, _, ⟨h0, slots_start r, fun ρ σ w1 l1 _ C fs m' w' H' d xs l a b c q => xl C fs m' w' H' d xs (l1.trans l) a b c q⟩, ?_, hC ds m Φ Ψ hd c⟩
  exact ⟨fun ρ m' w' H' σ l h' _ q => vl .non m' w' H' _ l h' rfl q, vl, fun _ _ _ _ _ _ _ _ q => q.elim, fun _ _ _ _ _ _ _ _ q => q.elim⟩
end
end Dl

namespace Dl
open PySem L2 PyProof.Rows

abbrev oSub : DO := oI0 fun i j => i - j
abbrev oMul : DO := oI MulC fun i j => i * j
abbrev oDiv : DO := oI DivC fun i j => i / j
abbrev oMod : DO := oI ModC fun i j => i % j
abbrev oLt : DO := oB0 fun i j => decide (i < j)
abbrev oGt : DO := oB0 fun i j => decide (j < i)
abbrev oGe : DO := oB0 fun i j => decide (j ≤ i)
theorem opl_sub {K : PySem.W.Frag} : OpL K (rI0 fun i j => .int (i - j)) oSub := opl_I0
theorem opl_addI {K : PySem.W.Frag} : OpL K (rI0 fun i j => .int (i + j)) (oI0 fun i j => i + j) := opl_I0
theorem opl_mul {K : PySem.W.Frag} : OpL K (rI MulC fun i j => .int (i * j)) oMul := opl_I fun _ _ h => h
theorem opl_div {K : PySem.W.Frag} : OpL K (rI CDivW fun i j => .int (i / j)) oDiv := opl_I fun _ _ h => divC_ok h
theorem opl_mod {K : PySem.W.Frag} : OpL K (rI (fun _ j => 0 < j) fun i j => .int (i % j)) oMod := opl_I fun _ _ h => h
theorem opl_lt {K : PySem.W.Frag} : OpL K (rI0 fun i j => .bl (decide (i < j))) oLt := opl_B0
theorem opl_gt {K : PySem.W.Frag} : OpL K (rI0 fun i j => .bl (decide (j < i))) oGt := opl_B0
theorem opl_ge {K : PySem.W.Frag} : OpL K (rI0 fun i j => .bl (decide (j ≤ i))) oGe := opl_B0
def oShl : DO := oI CPow fun i j => i * 2 ^ j.toNat
def oNeg : DO1 := fun x m Φ => match x with
  | .int i => Φ (.int (-i)) m
  | _ => False
theorem unl_neg {K : PySem.W.Frag} : UnL K (rU fun i => .int (-i)) oNeg := fun w m H x u Q Φ h r vl q => by
  cases x with
  | int i => exact ⟨i, r, vl.int h q⟩
  | _ => exact False.elim q
/-- every parameter is given -/
abbrev BA (fd : FuncData) (ps : List Str) : Prop := ∀ us : List Value, us.length = ps.length → bindArgs fd ⟨us, []⟩ = pure (ps.zip us)
/-- a def stands and keeps its worth -/
def Ok (P : Program) (w : World) (K : PySem.W.Frag) (mg : Str → Option Value) (base : Heap) (x : Str) (lv : Nat) (ps : List Str) (C : DC) : Prop :=
  ∃ f fd, mg x = some (.ref f) ∧ PySem.W.keepIn K (.ref f) = true ∧ BA fd ps ∧ FnOk P w K mg base (L2.CX P w) lv f fd ps (spOf K ps.length C)
/-- a def as the top has written it -/
def DefT (K : PySem.W.Frag) (mg : Str → Option Value) (x : Str) (st : Stmt) (ps : List Str) : Prop := ∃ f fd, Fun K x x st f fd ∧ mg x = some (.ref f) ∧ BA fd ps
theorem Ok.mono {P : Program} {w : World} {K : PySem.W.Frag} {mg : Str → Option Value} {base : Heap} {x : Str} {lv lv' : Nat} {ps : List Str} {C : DC} (h : Ok P w K mg base x lv ps C) (l : lv ≤ lv') : Ok P w K mg base x lv' ps C := by
  obtain ⟨f, fd, a, b, c, d⟩ := h
  exact ⟨f, fd, a, b, c, d.mono l⟩
/-- a weaker worth -/
theorem Ok.imp {P : Program} {w : World} {K : PySem.W.Frag} {mg : Str → Option Value} {base : Heap} {x : Str} {lv : Nat} {ps : List Str} {C C' : DC} (h : Ok P w K mg base x lv ps C) (i : ∀ ds m Φ Ψ, C' ds m Φ Ψ → C ds m Φ Ψ) : Ok P w K mg base x lv ps C' := by
  obtain ⟨f, fd, a, b, c, d⟩ := h
  exact ⟨f, fd, a, b, c, d.imp fun vs H Q E ⟨z, w, ds, m, Φ, Ψ, q1, q2, q3, q4, q5⟩ => ⟨z, w, ds, m, Φ, Ψ, q1, q2, q3, q4, i _ _ _ _ q5⟩⟩
section
variable {X : Cx} {E : WX} {pos p : Pos} {e : Expr} {es : List Expr} {Ws : DA} {x : Str} {k : Nat} {ps : List Str} {C : DC}
theorem je_callO (G : Ok X.prog X.w X.K X.mg X.base x k ps C) (tk : Takes X E) (hr : Room k X.A) (hg : Gl X x) (ha : JA X E (e :: es) Ws) (n : Nat) (hn : ps.length = n := by rfl) (hdb : (x == ("__debug__" : Str)) = false := by decide)
    (he : starEach (e :: es) X.env = (false, eval e X.env) :: starEach es X.env := by rfl) (hpl : (backTo pos (starEach es X.env)).any (·.1) = false := by rfl) : JE X E (.Call (.Name x p) (e :: es) [] pos) (dCall n C Ws) := by
  subst hn
  obtain ⟨f, fd, hm, kp, b, F⟩ := G
  exact je_call tk F hr hg hm kp (Binds.all b) ha hdb he hpl
end
/-- the law's own worth -/
def CLaw (C : List Int → MM → (D → MM → Prop) → Prop) : DC := fun ds m Φ _ => ∃ ns, ds = [.rol (ns.map D.int)] ∧ C ns m Φ
def ClawT : List Int → MM → (D → MM → Prop) → Prop := fun ns m Φ => ns.length ≤ 63 ∧ m = ⟨[], 0⟩ ∧ ∀ m', Φ (.bl true) m'
theorem repAll_ints {K : PySem.W.Frag} {w : Wd} : ∀ (ns : List Int), RepAll K w (ns.map D.int) (ns.map V.int)
  | [] => rfl
  | n :: ns => ⟨.int n, _, rfl, rfl, repAll_ints ns⟩
theorem law_sp {K : PySem.W.Frag} {H : Hp} {a : Addr} {ns : List Int} (hl : ns.length ≤ 63) (hS : SqL K H a (ns.map V.int)) : spOf K 1 (CLaw ClawT) [.ref a] H (fun v _ => v = .bl true) fun _ _ _ => False := by
  refine ⟨rfl, ⟨H, [], none⟩, [.rol (ns.map D.int)], ⟨[], 0⟩, fun d _ => d = .bl true, fun _ _ _ => False, ?_, ?_, ?_, ?_, ns, rfl, hl, rfl, fun _ => rfl⟩
  · exact ⟨fun _ _ h => h, rfl, List.nodup_nil, fun k a o e => by simp at e, fun k a o e => by simp at e, (fun _ S e => nomatch e), ⟨fun _ => rfl, fun e => nomatch e⟩⟩
  · exact ⟨_, [], rfl, ⟨a, _, rfl, hS, repAll_ints ns⟩, rfl⟩
  · intro d m' w' H' v l h r q
    subst q
    exact r
  · intro _ _ _ _ _ _ _ _ _ _ _ q
    exact q.elim
theorem cx_false {P : Program} {w : World} {H : Hp} {s : Shared} {e : Value} {s' : Shared} (h : L2.CX P w [] H s (fun _ _ _ => False) e s') : False := by
  obtain ⟨_, _, _, _, _, _, _, _, _, _, _, _, z⟩ := h
  exact z.elim

/-! ### reasoning -/
/-- over the items of a list of anything -/
theorem forW_map {α : Type} {inj : α → D} {g : DG} {body : DS} {N : DN} {Ψ : XS} (I : List α → Env → MM → Prop) (hs : ∀ d r (k : Env → MM → Prop), (∀ ρ m, I r ρ m → k ρ m) → ∀ ρ m, I (d :: r) ρ m → g (inj d) ρ m (fun ρ1 m1 => body { N with nx := k, ct := k, bk := N.nx } Ψ ρ1 m1))
    (hd : ∀ ρ m, I [] ρ m → N.nx ρ m) : ∀ (ds : List α) (ρ : Env) (m : MM), I ds ρ m → forW g body N Ψ (ds.map inj) ρ m
  | [], ρ, m, h => hd ρ m h
  | d :: r, ρ, m, h => hs d r _ (fun ρ m => forW_map I hs hd r ρ m) ρ m h
/-- over a range: I at the number of turns done -/
theorem forW_rng {lo : Int} {n : Nat} {g : DG} {body : DS} {N : DN} {Ψ : XS} (I : Nat → Env → MM → Prop) (hs : ∀ i (k : Env → MM → Prop), i < n → (∀ ρ m, I (i + 1) ρ m → k ρ m) → ∀ ρ m, I i ρ m → g (.int (lo + (i : Nat))) ρ m (fun ρ1 m1 => body { N with nx := k, ct := k, bk := N.nx } Ψ ρ1 m1))
    (hd : ∀ ρ m, I n ρ m → N.nx ρ m) {ρ : Env} {m : MM} (h : I 0 ρ m) : forW g body N Ψ (rngD lo n) ρ m := by
  have key : ∀ (k i : Nat), i + k = n → ∀ ρ m, I i ρ m → forW g body N Ψ ((List.range' i k).map fun (j : Nat) => D.int (lo + (j : Nat))) ρ m := by
    intro k
    induction k with
    | zero =>
      intro i e ρ m h
      have e : i = n := by omega
      subst e
      exact hd ρ m h
    | succ k ih =>
      intro i e ρ m h
      rw [List.range'_succ]
      exact hs i _ (by omega) (fun ρ m h => ih (i + 1) (by omega) ρ m h) ρ m h
  unfold rngD
  rw [List.range_eq_range']
  exact key n 0 (by omega) ρ m h
inductive All2 {α β : Type} (R : α → β → Prop) : List α → List β → Prop where
  | nil : All2 R [] []
  | cons {a b as bs} : R a b → All2 R as bs → All2 R (a :: as) (b :: bs)
theorem All2.length {α β : Type} {R : α → β → Prop} {as : List α} {bs : List β} (h : All2 R as bs) : as.length = bs.length := by
  induction h with
  | nil => rfl
  | cons _ _ ih => rw [List.length_cons, List.length_cons, ih]
theorem All2.fn {α β : Type} {f : α → β} : ∀ {as : List α} {bs : List β}, All2 (fun a b => b = f a) as bs → bs = as.map f
  | _, _, .nil => rfl
  | _, _, .cons e h => by rw [e, h.fn]; rfl
/-- a comprehension of a function's values -/
theorem lcW_fn {α β : Type} {inj : α → D} {out : β → D} {g : DG} {te : DE} {ρ : Env} {Φ : D → MM → Prop} (f : α → β) (m : MM) (xs : List α)
    (hg : ∀ x ∈ xs, ∀ (m' : MM) (Θ : D → MM → Prop), Θ (out (f x)) m' → g (inj x) ρ m' (fun ρ1 m1 => m1 = m' ∧ te ρ1 m' Θ XF)) (hc : ∀ y, clD m.M.length (out y) = true) (hl : xs.length ≤ LIM) (h : Φ (.lst ((xs.map f).map out)) m) :
    lcW g dYes te ρ Φ (xs.map inj) [] m := by
  have key : ∀ (ys : List α), (∀ x ∈ ys, x ∈ xs) → ∀ (acc : List D), acc.length + ys.length ≤ LIM → Φ (.lst (acc ++ (ys.map f).map out)) m → lcW g dYes te ρ Φ (ys.map inj) acc m := by
    intro ys
    induction ys with
    | nil => intro _ acc _ h; rw [List.map_nil, List.map_nil, List.append_nil] at h; exact h
    | cons x ys ih =>
      intro hx acc hl h
      rw [List.length_cons] at hl
      have z := hg x (hx x List.mem_cons_self) (m.push (.lst acc)) (fun y m3 => m3 = m.push (.lst acc) ∧ acc.length < LIM ∧ clD m.M.length y = true ∧ lcW g dYes te ρ Φ (ys.map inj) (acc ++ [y]) m) ⟨rfl, by omega, hc _, ih (fun y hy => hx y (List.mem_cons_of_mem _ hy)) (acc ++ [out (f x)]) (by rw [List.length_append, List.length_singleton]; omega) (by
        rw [List.map_cons, List.map_cons] at h
        rw [List.append_assoc]
        exact h)⟩
      have key : (fun (ρ1 : Env) (m1 : MM) => m1 = m.push (.lst acc) ∧ te ρ1 (m.push (.lst acc)) (fun y m3 => m3 = m.push (.lst acc) ∧ acc.length < LIM ∧ clD m.M.length y = true ∧ lcW g dYes te ρ Φ (ys.map inj) (acc ++ [y]) m) XF)
          = (fun ρ1 m1 => m1 = m.push (.lst acc) ∧ dYes ρ1 (m.push (.lst acc)) (fun b m2 => m2 = m.push (.lst acc) ∧ if b = true then te ρ1 (m.push (.lst acc)) (fun y m3 => m3 = m.push (.lst acc) ∧ acc.length < LIM ∧ clD m.M.length y = true ∧ lcW g dYes te ρ Φ (ys.map inj) (acc ++ [y]) m) XF
            else lcW g dYes te ρ Φ (ys.map inj) acc m) XF) := by
        funext ρ1 m1
        unfold dYes
        simp
      rw [key] at z
      exact z
  exact key xs (fun x h => h) [] (by rw [List.length_nil]; omega) (by rw [List.nil_append]; exact h)
theorem rngD0 {n : Nat} : rngD 0 n = (List.range n).map fun i : Nat => D.int (i : Nat) := by
  unfold rngD
  simp only [Int.zero_add]
/-- over range(n) -/
theorem forW_nat {n : Nat} {g : DG} {body : DS} {N : DN} {Ψ : XS} (I : Nat → Env → MM → Prop) (hs : ∀ i (k : Env → MM → Prop), i < n → (∀ ρ m, I (i + 1) ρ m → k ρ m) → ∀ ρ m, I i ρ m → g (.int (i : Nat)) ρ m (fun ρ1 m1 => body { N with nx := k, ct := k, bk := N.nx } Ψ ρ1 m1))
    (hd : ∀ ρ m, I n ρ m → N.nx ρ m) {ρ : Env} {m : MM} (h : I 0 ρ m) : forW g body N Ψ ((List.range n).map fun i : Nat => D.int (i : Nat)) ρ m := by
  rw [← rngD0]
  exact forW_rng I (fun i k hi hk ρ m h => by rw [Int.zero_add]; exact hs i k hi hk ρ m h) hd h
theorem bt_len : bootBuiltins "len" = some (.builtin "len") := by decide +kernel
theorem bt_abs : bootBuiltins "abs" = some (.builtin "abs") := by decide +kernel
theorem bt_max : bootBuiltins "max" = some (.builtin "max") := by decide +kernel
theorem bt_any : bootBuiltins "any" = some (.builtin "any") := by decide +kernel
theorem bt_isinstance : bootBuiltins "isinstance" = some (.builtin "isinstance") := by decide +kernel
theorem bt_int : bootBuiltins "int" = some (.type "int") := by decide +kernel
theorem bt_str : bootBuiltins "str" = some (.type "str") := by decide +kernel
end Dl

namespace Dl
open PySem L2 PyProof.Rows

/-! ### further walks -/
section
variable {X : Cx} {E : WX} {a b c : Expr} {Ws : DA} {pos p tpos : Pos} {elts : List Expr} {kk : Nat}
def enumD : Nat → List D → List D
  | _, [] => []
  | i, d :: ds => .tup [.int (i : Nat), d] :: enumD (i + 1) ds
def diEnumerate (r : DA) : DI := fun ρ m Φ Ψ => r ρ m (fun ds m1 => match ds with
  | [d] => match asF d with
    | some xs => Φ (enumD 0 xs) m1
    | none => False
  | _ => False) Ψ
def zipD : List D → List D → List D
  | x :: xs, y :: ys => .tup [x, y] :: zipD xs ys
  | _, _ => []
def diZip (r : DA) : DI := fun ρ m Φ Ψ => r ρ m (fun ds m1 => match ds with
  | [d, e] => match asF d, asF e with
    | some xs, some ys => Φ (zipD xs ys) m1
    | _, _ => False
  | _ => False) Ψ
def diReversed (r : DA) : DI := fun ρ m Φ Ψ => r ρ m (fun ds m1 => match ds with
  | [d] => match asF d with
    | some xs => Φ xs.reverse m1
    | none => False
  | _ => False) Ψ
end

/-! ### a comprehension whose list changes later -/
def lcWM (g : DG) (tt : DT) (te : DE) (ρ : Env) (Φ : D → MM → Prop) : List D → List D → MM → Prop
  | [], acc, m => Φ (.hnd m.M.length) (m.push (.lst acc))
  | d :: ds, acc, m => g d ρ (m.push (.lst acc)) fun ρ1 m1 => m1 = m.push (.lst acc) ∧ tt ρ1 (m.push (.lst acc)) (fun b m2 => m2 = m.push (.lst acc) ∧ if b = true then
      te ρ1 (m.push (.lst acc)) (fun y m3 => m3 = m.push (.lst acc) ∧ acc.length < LIM ∧ lcWM g tt te ρ Φ ds (acc ++ [y]) m) XF
    else lcWM g tt te ρ Φ ds acc m) XF
def dLcM (it : DI) (g : DG) (tt : DT) (te : DE) (vs : List Nat) : DE := fun ρ m Φ Ψ => it ρ m (fun ds m1 => lcWM g tt te (wipeD ρ vs) Φ ds [] m1) Ψ
section
variable {X : Cx} {E : WX}
end

/-! ### the drawing state, opened and closed -/
section
variable {K : PySem.W.Frag} {w : Wd} {m : MM} {H : Hp} {p A c : Addr}
theorem HRep.adopt {o : MO} (h : HRep K w m H) (h0 : m.s ≠ 1) (hp : p ∉ w.th) (hF : w.F p = none) (ob : ORep K (w.add p) H p o) : HRep K (w.add p) (m.push o) H where
  ext := h.ext
  len := by show (w.th ++ [p]).length = (m.M ++ [o]).length; rw [List.length_append, List.length_append, h.len]; rfl
  nd := by
    show (w.th ++ [p]).Nodup
    rw [List.nodup_append]
    refine ⟨h.nd, by simp, fun a ha b hb e => ?_⟩
    have e2 : b = p := by simpa using hb
    subst e2; subst e
    exact hp ha
  obj := fun k a o' q1 q2 => by
    have q1 : (w.th ++ [p])[k]? = some a := q1
    have q2 : (m.M ++ [o])[k]? = some o' := q2
    rcases Nat.lt_or_ge k w.th.length with hk | hk
    · rw [List.getElem?_append_left hk] at q1
      rw [List.getElem?_append_left (by rw [← h.len]; exact hk)] at q2
      exact (h.obj k a o' q1 q2).mono Wd.le_add rfl
    · rw [List.getElem?_append_right hk] at q1
      rw [List.getElem?_append_right (by rw [← h.len]; exact hk)] at q2
      have hk2 : k = w.th.length := by
        have z := (List.getElem?_eq_some_iff.mp q1).1
        simp at z; omega
      subst hk2
      rw [Nat.sub_self] at q1
      rw [h.len, Nat.sub_self] at q2
      simp at q1 q2
      subst q1; subst q2
      exact ob
  thF := fun k a o' q1 q2 q3 => by
    have q1 : (w.th ++ [p])[k]? = some a := q1
    have q2 : (m.M ++ [o])[k]? = some o' := q2
    show w.F a = none
    rcases Nat.lt_or_ge k w.th.length with hk | hk
    · rw [List.getElem?_append_left hk] at q1
      rw [List.getElem?_append_left (by rw [← h.len]; exact hk)] at q2
      exact h.thF k a o' q1 q2 q3
    · rw [List.getElem?_append_right hk] at q1
      have z : a ∈ [p] := List.mem_of_getElem? q1
      have e : a = p := by simpa using z
      rw [e]; exact hF
  ls := fun q => absurd q h0
  flag := h.flag
theorem HRep.turn {s : Nat} (h : HRep K w m H) (h1 : s ≠ 1) (h0 : s ≠ 0) : HRep K w ⟨m.M, s⟩ H := ⟨h.ext, h.len, h.nd, h.obj, h.thF, fun q => absurd q h1, ⟨fun q => absurd q h0, fun q => absurd q h1⟩⟩
theorem repAll_intsD {K : PySem.W.Frag} {w : Wd} : ∀ (ns : List Int), RepAll K w (ns.map D.int) (ns.map V.int)
  | [] => rfl
  | n :: ns => ⟨.int n, _, rfl, rfl, repAll_intsD ns⟩
/-- the lists of the drawing state become our own -/
theorem HRep.opened (h : HRep K w m H) (h1 : m.s = 1) (hS : w.S = some ⟨A, c, 0⟩) : ∃ (cells : List Int) (seed : Int),
    HRep K ((w.add c).add A) ⟨m.M ++ [.lst (cells.map D.int)] ++ [.lst [.hnd m.M.length, .int seed]], 2⟩ H ∧ w.le ((w.add c).add A) := by
  obtain ⟨hok, h2⟩ := h.ls h1 _ hS
  obtain ⟨cells, seed, hA, hc⟩ : ∃ (cells : List Int) (seed : Int), H A = some (.lst [.ref c, .int seed]) ∧ H c = some (.lst (cells.map V.int)) := hok
  have fA := h2 A (by show A ∈ [A, c]; simp)
  have fc := h2 c (by show c ∈ [A, c]; simp)
  have ne : A ≠ c := fun z => by
    rw [← z, hA] at hc
    cases cells with
    | nil => cases hc
    | cons x xs => cases hc
  have g1 := (h.turn (s := 2) (by decide) (by decide)).adopt (o := .lst (cells.map D.int)) (by show (2 : Nat) ≠ 1; decide) fc.2.1 fc.1 ⟨_, hc, repAll_intsD cells⟩
  have g2 := g1.adopt (p := A) (o := .lst [.hnd m.M.length, .int seed]) (by show (2 : Nat) ≠ 1; decide) (by show A ∉ w.th ++ [c]; simp only [List.mem_append, List.mem_singleton, not_or]; exact ⟨fA.2.1, ne⟩) fA.1
    ⟨_, hA, .ref c, _, rfl, ⟨c, rfl, Wd.le_add.th _ _ (by show (w.th ++ [c])[m.M.length]? = some c; rw [← h.len, List.getElem?_append_right (Nat.le_refl _)]; simp)⟩, .int seed, [], rfl, rfl, rfl⟩
  exact ⟨cells, seed, g2, Wd.le_add.trans Wd.le_add⟩
/-- .. and are given back -/
theorem HRep.closed {M0 : List MO} {S : LS} (h : HRep K w m H) (hM : m.M.take M0.length = M0) (hS : w.S = some S) (hc : ∀ o ∈ M0, clO M0.length o = true) (hA : ∀ a ∈ S.fp, ∃ j, M0.length ≤ j ∧ w.th[j]? = some a ∧ ∃ o, m.M[j]? = some o ∧ o ≠ .dead) (ok : S.ok H) :
    HRep K (w.cut M0.length) ⟨M0, 1⟩ H := by
  have z := h.cut (n := M0.length) (by rw [hM]; exact hc)
  have e : (m.cut M0.length).M = M0 := hM
  exact {
    ext := z.ext
    len := by have q := z.len; rw [e] at q; exact q
    nd := z.nd
    obj := fun k a o q1 q2 => z.obj k a o q1 (by rw [e]; exact q2)
    thF := fun k a o q1 q2 q3 => z.thF k a o q1 (by rw [e]; exact q2) q3
    ls := fun _ S' q => by
      have q : w.S = some S' := q
      rw [hS] at q; cases q
      refine ⟨ok, fun a ha => ?_⟩
      obtain ⟨j, hj, e1, o, e2, e3⟩ := hA a ha
      refine ⟨h.thF j a o e1 e2 e3, fun hm => ?_, h.thH (List.mem_of_getElem? e1)⟩
      have hm : a ∈ w.th.take M0.length := hm
      obtain ⟨i, hi, ei⟩ := List.mem_iff_getElem.mp hm
      have hi2 := hi
      rw [List.length_take] at hi2
      have e4 : w.th[i]? = some a := by
        have q : (w.th.take M0.length)[i]? = some a := by rw [List.getElem?_eq_getElem hi, ei]
        rw [List.getElem?_take_of_lt (by omega)] at q
        exact q
      obtain ⟨k1, k2⟩ := List.getElem?_eq_some_iff.mp e1
      obtain ⟨j1, j2⟩ := List.getElem?_eq_some_iff.mp e4
      have ij : j = i := (List.getElem_inj h.nd).mp (k2.trans j2.symm)
      omega
    flag := ⟨fun q => (by cases q), fun _ => by show w.S.isSome = true; rw [hS]; rfl⟩ }
end
/-! the two defs of most laws: the state is made; a number is drawn -/
section
variable {P : Program} {w : World} {K : PySem.W.Frag} {mg : Str → Option Value} {base : Heap} {x : Str} {lv : Nat} {ps : List Str}
theorem Ok.impV {C C' : DC} (h : Ok P w K mg base x lv ps C) (i : ∀ vs H Q E, spOf K ps.length C' vs H Q E → spOf K ps.length C vs H Q E) : Ok P w K mg base x lv ps C' := by
  obtain ⟨f, fd, a, b, c, d⟩ := h
  exact ⟨f, fd, a, b, c, d.imp i⟩
end
end Dl

namespace Dl
open PySem L2
theorem moL_lst {ds : List D} : moL (some (.lst ds)) = some ds := rfl
theorem atI_cons0 {α : Type} {a : α} {l : List α} : atI (a :: l) 0 = some a := atI_nat (j := 0) rfl
theorem ixN0 {n : Nat} (h : 0 < n) : ixN n 0 = some 0 := by
  unfold ixN
  rw [if_pos (by decide), if_pos (by omega)]; rfl
local macro_rules | `(tactic| walk_at "dl") => `(tactic| try simp only [dSeq, dSet, dOp, dUn, dVar, dC, dCB, dCons, dNil, dRet, dRetN, dIf, dB, dAnd, dOr, dNot, dDrop, dNext, dMethL, dSetIx, dAndV, dOrV, dNotV, dBlV, dIfE, dLst, dTup, dLstM, dCall, dChain, dAsg, dgName, dgTup, bindD, asT, dFor, diList, diRng1, diRng2, diEnumerate, diZip, diReversed, dLc, dLcM, dYes, wipeD, dAug, dSl, dpN, dpS,
  oI, oI0, oB0, oAdd, oNeg, oEq, oNe, oIx, oIsN, oNotN, isNon, oShl, oApp, oPop, oPopAt, cLen, cInt, cAbs, cSum, cMax2, cMin2, cList, cIsi, tyD, asL, asF, asK, moL_lst, ModC, DivC,
  List.getElem?_cons_zero, List.getElem?_cons_succ, List.set_cons_zero, List.set_cons_succ, List.getElem?_nil, List.length_cons, List.length_nil, List.length_map, Option.map_some, Option.bind_some, Option.isSome_some, if_true, true_and, and_true, MM.push])
/-- an item by an int -/
def gi (xs : List Int) (z : Int) : Int := xs.getD z.toNat 0
theorem ixN_of {n : Nat} {z : Int} (h0 : 0 ≤ z) (h : z < n) : ixN n z = some z.toNat := by
  unfold ixN
  rw [if_pos h0, if_pos h]
theorem atI_gi {xs : List Int} {z : Int} (h0 : 0 ≤ z) (h : z < xs.length) : atI (xs.map D.int) z = some (.int (gi xs z)) := by
  unfold atI
  rw [List.length_map, ixN_of h0 h]
  show (xs.map D.int)[z.toNat]? = _
  have hl : z.toNat < xs.length := by omega
  rw [List.getElem?_map, List.getElem?_eq_getElem hl]
  unfold gi
  rw [List.getD_eq_getElem?_getD, List.getElem?_eq_getElem hl]; rfl
theorem atI_map {α : Type} {inj : α → D} {xs : List α} {z : Int} {x : α} (h0 : 0 ≤ z) (h : xs[z.toNat]? = some x) : atI (xs.map inj) z = some (inj x) := by
  have hl := (List.getElem?_eq_some_iff.mp h).1
  unfold atI
  rw [List.length_map, ixN_of h0 (by omega)]
  show (xs.map inj)[z.toNat]? = _
  rw [List.getElem?_map, h]; rfl
end Dl

namespace Dl
/-! ### sums and remainders -/
/-- like mod p -/
def Cg (p a b : Int) : Prop := a % p = b % p
section
variable {p a b c d : Int}
theorem Cg.refl : Cg p a a := rfl
theorem Cg.of_eq (h : a = b) : Cg p a b := by rw [h]; exact .refl
theorem Cg.symm (h : Cg p a b) : Cg p b a := Eq.symm h
theorem Cg.trans (h : Cg p a b) (g : Cg p b c) : Cg p a c := Eq.trans h g
theorem Cg.add (h : Cg p a b) (g : Cg p c d) : Cg p (a + c) (b + d) := by
  unfold Cg at *
  rw [Int.add_emod, h, g, ← Int.add_emod]
theorem Cg.mul (h : Cg p a b) (g : Cg p c d) : Cg p (a * c) (b * d) := by
  unfold Cg at *
  rw [Int.mul_emod, h, g, ← Int.mul_emod]
theorem Cg.neg (h : Cg p a b) : Cg p (-a) (-b) := by
  have z := Cg.mul (Cg.refl (p := p) (a := -1)) h
  rw [← Int.neg_eq_neg_one_mul, ← Int.neg_eq_neg_one_mul] at z
  exact z
theorem Cg.sub (h : Cg p a b) (g : Cg p c d) : Cg p (a - c) (b - d) := by
  rw [Int.sub_eq_add_neg, Int.sub_eq_add_neg]
  exact h.add g.neg
theorem Cg.mod : Cg p (a % p) a := Int.emod_emod_of_dvd _ (Int.dvd_refl _)
end
/-- f 0 + … + f (n-1) -/
def S : Nat → (Nat → Int) → Int
  | 0, _ => 0
  | n + 1, f => S n f + f n
end Dl

namespace Dl
open PySem L2 PyProof.Rows
/-! ### repr: asked by the law's own def alone, where no repr is under way -/
/-- small enough to be written out: depth at most n, weight at most k -/
structure OkR (n k : Nat) (d : D) : Prop where
  lay : okE n d = true
  shw : (toPy d).showable = true
  lvs : (toPy d).leavesShort 13 = true
  wgt : (toPy d).weight ≤ k
theorem OkR.int {n k : Nat} {i : Int} (h1 : -1000000000000 < i) (h2 : i < 1000000000000) (hk : 40 ≤ k) : OkR n k (.int i) where
  lay := rfl
  shw := by
    show decide (i.natAbs.log2 < 1920) = true

    by_cases h0 : i.natAbs = 0
    · rw [h0]; decide
    · have z := (Nat.log2_lt h0).mpr (show i.natAbs < 2 ^ 40 by omega)
      exact decide_eq_true (Nat.lt_trans z (by decide))
  lvs := decide_eq_true (PyData.shown_int_le (show i.natAbs < 10 ^ 12 by omega))
  wgt := by
    show (if i == 0 then 0 else i.natAbs.log2 + 1) ≤ k
    split
    · omega
    · have h0 : i.natAbs ≠ 0 := by
        rename_i h
        intro z
        apply h
        have : i = 0 := by omega
        rw [this]; rfl
      have := (Nat.log2_lt h0).mpr (show i.natAbs < 2 ^ 40 by omega)
      omega
theorem OkR.str {n k : Nat} {x : Str} (h : PyData.strOk x = true) (hl : (x.cps.toList.all fun c => decide (c < 16 ^ 8)) = true) (hk : x.cps.size ≤ k) : OkR n k (.str x) := ⟨h, rfl, hl, hk⟩
theorem OkR.bl {n k : Nat} {b : Bool} : OkR n k (.bl b) := ⟨rfl, rfl, rfl, Nat.zero_le _⟩
theorem OkR.non {n k : Nat} : OkR n k .non := ⟨rfl, rfl, rfl, Nat.zero_le _⟩
theorem okRs {n k : Nat} : ∀ {ds : List D}, (∀ d ∈ ds, OkR n k d) → okEs n ds = true ∧ PyData.showableAll (toPys ds) = true ∧ PyData.leavesShortAll 13 (toPys ds) = true ∧ PyData.weightAll (toPys ds) ≤ ds.length * (k + 1)
  | [], _ => ⟨rfl, rfl, rfl, by simp [toPys, PyData.weightAll]⟩
  | d :: ds, h => by
    obtain ⟨a, b, c, e⟩ := h d List.mem_cons_self
    obtain ⟨a2, b2, c2, e2⟩ := okRs fun x hx => h x (List.mem_cons_of_mem _ hx)
    refine ⟨?_, ?_, ?_, ?_⟩
    · show (okE n d && okEs n ds) = true
      rw [a, a2]; rfl
    · show (PyData.showable (toPy d) && PyData.showableAll (toPys ds)) = true
      rw [b, b2]; rfl
    · show (PyData.leavesShort 13 (toPy d) && PyData.leavesShortAll 13 (toPys ds)) = true
      rw [c, c2]; rfl
    · show PyData.weight (toPy d) + 1 + PyData.weightAll (toPys ds) ≤ (ds.length + 1) * (k + 1)
      rw [Nat.add_mul, Nat.one_mul]
      omega
theorem OkR.lst {n k j : Nat} {ds : List D} (h : ∀ d ∈ ds, OkR n k d) (hj : ds.length * (k + 1) ≤ j) : OkR (n + 1) j (.lst ds) := by
  obtain ⟨a, b, c, e⟩ := okRs h
  exact ⟨by show (decide (0 < n + 1) && okEs n ds) = true; rw [a]; simp, b, c, Nat.le_trans e hj⟩
theorem OkR.tup {n k j : Nat} {ds : List D} (h : ∀ d ∈ ds, OkR n k d) (hj : ds.length * (k + 1) ≤ j) : OkR (n + 1) j (.tup ds) := by
  obtain ⟨a, b, c, e⟩ := okRs h
  exact ⟨by show (decide (0 < n + 1) && okEs n ds) = true; rw [a]; simp, b, c, Nat.le_trans e hj⟩
/-! ### the law's own call, the surroundings known -/
section
variable {P : Program} {w : World} {K : PySem.W.Frag} {mg : Str → Option Value} {base : Heap}
end
/-! ### odds and ends -/
/-- one statement at a time: what follows is held back -/
theorem dSeq_k {a b : DS} {N : DN} {Ψ : XS} {ρ : Dl.Env} {m : MM} (h : ∀ k : Dl.Env → MM → Prop, k = b N Ψ → a { N with nx := k } Ψ ρ m) : dSeq a b N Ψ ρ m := h _ rfl
end Dl

namespace Dl
/-! ### primes -/
structure Prim (p : Int) : Prop where
  two : 2 ≤ p
  euc : ∀ a b : Int, p ∣ a * b → p ∣ a ∨ p ∣ b
/-! ### remainders by a prime -/
theorem Cg.iff_dvd {p a b : Int} : Cg p a b ↔ p ∣ a - b := Int.emod_eq_emod_iff_emod_sub_eq_zero.trans ⟨Int.dvd_of_emod_eq_zero, Int.emod_eq_zero_of_dvd⟩
theorem Cg.zero_iff {p a : Int} : Cg p a 0 ↔ p ∣ a := by
  rw [Cg.iff_dvd, Int.sub_zero]
theorem Prim.mul_zero {p a b : Int} (P : Prim p) (h : Cg p (a * b) 0) : Cg p a 0 ∨ Cg p b 0 := by
  rw [Cg.zero_iff, Cg.zero_iff]
  exact P.euc _ _ (Cg.zero_iff.mp h)
/-! ### the small theorem of Fermat -/
end Dl

namespace Dl
/-! ### polynomials by their coefficients -/
def pev : List Int → Int → Int
  | [], _ => 0
  | c :: cs, t => c + t * pev cs t
/-- the values of the ends -/
def syn (a : Int) : List Int → List Int
  | [] => []
  | c :: cs => pev (c :: cs) a :: syn a cs
theorem syn_len (a : Int) : ∀ cs : List Int, (syn a cs).length = cs.length
  | [] => rfl
  | c :: cs => by
    show (syn a cs).length + 1 = cs.length + 1
    rw [syn_len a cs]
theorem syn_div (a t : Int) : ∀ (c : Int) (cs : List Int), pev (c :: cs) t - pev (c :: cs) a = (t - a) * pev (syn a cs) t
  | c, [] => by
    show c + t * 0 - (c + a * 0) = (t - a) * 0
    omega
  | c, d :: ds => by
    have ih := syn_div a t d ds
    show c + t * pev (d :: ds) t - (c + a * pev (d :: ds) a) = (t - a) * (pev (d :: ds) a + t * pev (syn a ds) t)
    have e : t * ((t - a) * pev (syn a ds) t) = t * (pev (d :: ds) t - pev (d :: ds) a) := by rw [ih]
    grind
/-- all numbers of the list are 0 but for multiples of p -/
def Zer (p : Int) (cs : List Int) : Prop := ∀ c ∈ cs, Cg p c 0
theorem Zer.pev {p : Int} {cs : List Int} (h : Zer p cs) (t : Int) : Cg p (pev cs t) 0 := by
  induction cs with
  | nil => exact .refl
  | cons c cs ih =>
    have h1 := (h c List.mem_cons_self).add ((Cg.refl (a := t)).mul (ih fun x hx => h x (List.mem_cons_of_mem _ hx)))
    rw [Int.mul_zero] at h1
    exact h1
theorem Zer.of_syn {p a : Int} : ∀ {cs : List Int}, Zer p (syn a cs) → Zer p cs
  | [], _ => fun _ h => nomatch h
  | c :: cs, h => by
    have ih := Zer.of_syn (cs := cs) fun x hx => h x (List.mem_cons_of_mem _ hx)
    intro x hx
    rcases List.mem_cons.mp hx with rfl | hx
    · have h1 : Cg p (x + a * Dl.pev cs a) 0 := h _ List.mem_cons_self
      have h2 := (Cg.refl (a := a)).mul (ih.pev a)
      rw [Int.mul_zero] at h2
      have h3 := h1.sub h2
      rw [show x + a * Dl.pev cs a - a * Dl.pev cs a = x by omega] at h3
      exact h3
    · exact ih x hx
/-- as many roots as coefficients: nothing is left -/
theorem roots_zero {p : Int} (P : Prim p) : ∀ (xs cs : List Int), xs.Pairwise (fun x y => ¬ Cg p (x - y) 0) → cs.length ≤ xs.length → (∀ x ∈ xs, Cg p (pev cs x) 0) → Zer p cs
  | _, [], _, _, _ => fun _ h => nomatch h
  | [], c :: cs, _, h, _ => by simp at h
  | x :: xs, c :: cs, hd, hl, hr => by
    rw [List.pairwise_cons] at hd
    have hx := hr x List.mem_cons_self
    have hs : Zer p (syn x cs) := roots_zero P xs (syn x cs) hd.2 (by rw [syn_len]; simpa using hl) fun y hy => by
      have h1 := (hr y (List.mem_cons_of_mem _ hy)).sub hx
      rw [syn_div] at h1
      rcases P.mul_zero h1 with z | z
      · have z2 := z.neg
        rw [show -(y - x) = x - y by omega] at z2
        exact absurd z2 (hd.1 y hy)
      · exact z
    have hz := Zer.of_syn hs
    intro y hy
    rcases List.mem_cons.mp hy with rfl | hy
    · have h2 := (Cg.refl (a := x)).mul (hz.pev x)
      rw [Int.mul_zero] at h2
      have h1 : Cg p (y + x * pev cs x) 0 := hx
      have h3 := h1.sub h2
      rw [show y + x * pev cs x - x * pev cs x = y by omega] at h3
      exact h3
    · exact hz y hy
def padd : List Int → List Int → List Int
  | [], ds => ds
  | cs, [] => cs
  | c :: cs, d :: ds => (c + d) :: padd cs ds
theorem padd_pev (t : Int) : ∀ cs ds : List Int, pev (padd cs ds) t = pev cs t + pev ds t
  | [], ds => by
    show pev ds t = 0 + pev ds t
    omega
  | c :: cs, [] => by
    show pev (c :: cs) t = pev (c :: cs) t + 0
    omega
  | c :: cs, d :: ds => by
    show c + d + t * pev (padd cs ds) t = c + t * pev cs t + (d + t * pev ds t)
    rw [padd_pev t cs ds, Int.mul_add]; omega
theorem padd_len : ∀ cs ds : List Int, (padd cs ds).length = max cs.length ds.length
  | [], ds => by simp [padd]
  | c :: cs, [] => by simp [padd]
  | c :: cs, d :: ds => by
    show (padd cs ds).length + 1 = max (cs.length + 1) (ds.length + 1)
    rw [padd_len cs ds]; omega
theorem pmul_pev (a t : Int) : ∀ cs : List Int, pev (cs.map fun c => a * c) t = a * pev cs t
  | [] => by show (0 : Int) = a * 0; omega
  | c :: cs => by
    show a * c + t * pev (cs.map fun c => a * c) t = a * (c + t * pev cs t)
    rw [pmul_pev a t cs, Int.mul_add, ← Int.mul_assoc, ← Int.mul_assoc, Int.mul_comm t a]
/-- f is a polynomial of degree at most n, but for multiples of p -/
def Pol (p : Int) (n : Nat) (f : Int → Int) : Prop := ∃ cs : List Int, cs.length ≤ n + 1 ∧ ∀ t, Cg p (f t) (pev cs t)
section
variable {p : Int} {n m : Nat} {f g : Int → Int}
theorem Pol.const (c : Int) : Pol p n (fun _ => c) := ⟨[c], by simp, fun t => .of_eq (by show c = c + t * 0; omega)⟩
theorem Pol.mono (h : Pol p n f) (l : n ≤ m) : Pol p m f := by
  obtain ⟨cs, h1, h2⟩ := h
  exact ⟨cs, by omega, h2⟩
theorem Pol.congr (h : Pol p n f) (e : ∀ t, Cg p (g t) (f t)) : Pol p n g := by
  obtain ⟨cs, h1, h2⟩ := h
  exact ⟨cs, h1, fun t => (e t).trans (h2 t)⟩
theorem Pol.add (h : Pol p n f) (k : Pol p n g) : Pol p n fun t => f t + g t := by
  obtain ⟨cs, h1, h2⟩ := h
  obtain ⟨ds, k1, k2⟩ := k
  exact ⟨padd cs ds, by rw [padd_len]; omega, fun t => by rw [padd_pev]; exact (h2 t).add (k2 t)⟩
theorem Pol.smul (a : Int) (h : Pol p n f) : Pol p n fun t => a * f t := by
  obtain ⟨cs, h1, h2⟩ := h
  exact ⟨cs.map fun c => a * c, by rw [List.length_map]; exact h1, fun t => by rw [pmul_pev]; exact Cg.mul .refl (h2 t)⟩
theorem Pol.sub (h : Pol p n f) (k : Pol p n g) : Pol p n fun t => f t - g t :=
  (h.add (k.smul (-1))).congr fun t => .of_eq (by omega)
theorem Pol.sum {F : Nat → Int → Int} : ∀ k : Nat, (∀ i < k, Pol p n (F i)) → Pol p n fun t => S k fun i => F i t
  | 0, _ => .const 0
  | k + 1, h => (Pol.sum k fun i hi => h i (by omega)).add (h k (by omega))
theorem Pol.pev (cs : List Int) (h : cs.length ≤ n + 1) : Pol p n (Dl.pev cs) := ⟨cs, h, fun _ => .refl⟩
/-- equal at n + 1 places: equal everywhere -/
theorem Pol.ext (P : Prim p) (h : Pol p n f) (k : Pol p n g) (xs : List Int) (hd : xs.Pairwise (fun x y => ¬ Cg p (x - y) 0)) (hl : n + 1 ≤ xs.length) (e : ∀ x ∈ xs, Cg p (f x) (g x)) (t : Int) : Cg p (f t) (g t) := by
  obtain ⟨cs, h1, h2⟩ := h.sub k
  have z := roots_zero P xs cs hd (by omega) fun x hx => by
    have := (e x hx).sub (Cg.refl (a := g x))
    rw [Int.sub_self] at this
    exact (h2 x).symm.trans this
  have w := ((h2 t).trans (z.pev t)).add (Cg.refl (a := g t))
  rw [show f t - g t + g t = f t by omega, Int.zero_add] at w
  exact w
end
/-! ### Lagrange -/
/-! ### more of reading -/
theorem All2.all {α : Type} {P : Int → Prop} {xs : List α} {ys : List Int} (h : All2 (fun _ y => P y) xs ys) : ∀ y ∈ ys, P y := by
  induction h with
  | nil => intro y hy; cases hy
  | cons h _ ih =>
    intro y hy
    rcases List.mem_cons.mp hy with rfl | hy
    · exact h
    · exact ih y hy
theorem cut_map {α : Type} {f : α → D} {xs : List α} {l u : Option Int} : ∃ ys : List α, cutD (xs.map f) l u = ys.map f ∧ ys.length ≤ xs.length := by
  refine ⟨(xs.drop (HT.sIx (xs.map f).length 0 l)).take (HT.sIx (xs.map f).length (xs.map f).length u - HT.sIx (xs.map f).length 0 l), ?_, ?_⟩
  · unfold cutD
    rw [← List.map_drop, ← List.map_take]
  · rw [List.length_take, List.length_drop]; omega
theorem cut_from1 {x : D} {r : List D} : cutD (x :: r) (some 1) none = r := by
  unfold cutD
  rw [show HT.sIx (x :: r).length 0 (some 1) = 1 from (HT.sIx_nat _ _ 1).trans (by simp), HT.sIx_none]
  simp
end Dl

namespace Dl
open PySem L2
/-! ### a list over and over -/
def oRep : DO := fun x y m Φ => match x, y with
  | .lst ds, .int k => ds.length * k.toNat ≤ LIM ∧ -(2 ^ 63) ≤ k ∧ k < 2 ^ 63 ∧ Φ (.lst (List.replicate k.toNat ds).flatten) m
  | _, _ => False
theorem repAll_many {K : PySem.W.Frag} {w : Wd} {ds : List D} {vs : List V} (r : RepAll K w ds vs) : ∀ k : Nat, RepAll K w (List.replicate k ds).flatten (List.replicate k vs).flatten
  | 0 => rfl
  | k + 1 => by
    rw [List.replicate_succ, List.replicate_succ, List.flatten_cons, List.flatten_cons]
    exact r.append (repAll_many r k)
theorem opl_rep {K : PySem.W.Frag} : OpL K rRep oRep := fun w m H x y u v Q Φ h r1 r2 vl q => by
  unfold oRep at q
  split at q
  · obtain ⟨a, xs, rfl, ha, ra⟩ := r1
    cases (show v = V.int _ from r2)
    obtain ⟨z, k1, k2, q⟩ := q
    refine ⟨a, _, xs, rfl, rfl, h.ext _ _ ha, k1, k2, lim_sz (by rw [ra.length]; exact z), fun p hp => ?_⟩
    exact vl _ m _ _ _ (Wd.le_put (h.nof hp)) (h.put hp) (rep_put_lst h hp (repAll_many ra _)) q
  · exact q.elim
end Dl

namespace Dl
open PySem L2
/-! ### the drawing state of the other kind: a row of numbers, the first a place in it -/
section
variable {K : PySem.W.Frag} {w : Wd} {m : MM} {H : Hp} {A c : Addr}
theorem HRep.openedR (h : HRep K w m H) (h1 : m.s = 1) (hS : w.S = some ⟨A, c, 1⟩) : ∃ (j : Int) (ns : List Int), 1 ≤ j ∧ HRep K (w.add A) ⟨m.M ++ [.lst ((j :: ns).map D.int)], 2⟩ H ∧ w.le (w.add A) := by
  obtain ⟨hok, h2⟩ := h.ls h1 _ hS
  obtain ⟨j, ns, hj, hA⟩ : ∃ (j : Int) (ns : List Int), 1 ≤ j ∧ H A = some (.lst ((j :: ns).map V.int)) := hok
  have fA := h2 A (by show A ∈ [A]; simp)
  exact ⟨j, ns, hj, (h.turn (s := 2) (by decide) (by decide)).adopt (o := .lst ((j :: ns).map D.int)) (by show (2 : Nat) ≠ 1; decide) fA.2.1 fA.1 ⟨_, hA, repAll_intsD (j :: ns)⟩, Wd.le_add⟩
end
def C_streamO : DC := fun ds m Φ _ => (∃ ns : List Int, ds = [.rol (ns.map D.int)] ∧ ns.length ≤ 1000) ∧ ∀ (cells : List Int), Φ (.hnd m.M.length) ⟨m.M ++ [.lst ((1 :: cells).map D.int)], m.s⟩
def C_stream : DC := fun ds m Φ _ => (∃ ns : List Int, ds = [.rol (ns.map D.int)] ∧ ns.length ≤ 1000) ∧ m.s = 0 ∧ Φ (.st 1) ⟨m.M, 1⟩
def C_takeO : DC := fun ds m Φ _ => ∃ (k : Nat) (j : Int) (cells : List Int) (n : Int), ds = [.hnd k, .int n] ∧ 0 < n ∧ n < 2 ^ 64 ∧ 1 ≤ j ∧ m.M[k]? = some (.lst ((j :: cells).map D.int)) ∧
  ∀ (r j' : Int), 1 ≤ j' → 0 ≤ r → r < n → Φ (.int r) ⟨m.M.set k (.lst ((j' :: cells).map D.int)), m.s⟩
def C_take : DC := fun ds m Φ _ => ∃ n : Int, ds = [.st 1, .int n] ∧ m.s = 1 ∧ 0 < n ∧ n < 2 ^ 64 ∧ ∀ r : Int, 0 ≤ r → r < n → Φ (.int r) m
section
variable {P : Program} {w : World} {K : PySem.W.Frag} {mg : Str → Option Value} {base : Heap} {x : Str} {lv : Nat} {ps : List Str}
theorem stream_close (h : Ok P w K mg base x lv ps C_streamO) : Ok P w K mg base x lv ps C_stream := h.impV fun vs H Q E ⟨z, w0, ds, m, Φ, Ψ, h0, r, vl, xl, hds, hs, q⟩ => by
  refine ⟨z, w0, ds, m, fun d m' => ∃ cells : List Int, d = .hnd m.M.length ∧ m' = ⟨m.M ++ [.lst ((1 :: cells).map D.int)], m.s⟩, Ψ, h0, r, ?_, xl, hds, fun cells => ⟨cells, rfl, rfl⟩⟩
  rintro d m' w' H' v l h' rd ⟨cells, rfl, rfl⟩
  obtain ⟨A, rfl, eA⟩ := rd
  have hS : w'.S = none := h'.flag.1 hs
  have gA : (m.M ++ [MO.lst ((1 :: cells).map D.int)])[m.M.length]? = some (.lst ((1 :: cells).map D.int)) := by
    rw [List.getElem?_append_right (Nat.le_refl _)]; simp
  obtain ⟨xs, hA, rx⟩ := h'.obj _ A _ eA gA
  have ex := ints_ok (ints_map (1 :: cells)) rx
  subst ex
  have lS : w'.le ⟨w'.F, w'.th, some ⟨A, A, 1⟩⟩ := ⟨fun _ _ h => h, fun _ _ h => h, fun S e => by rw [hS] at e; cases e⟩
  have h2 : HRep K ⟨w'.F, w'.th, some ⟨A, A, 1⟩⟩ ⟨m.M ++ [.lst ((1 :: cells).map D.int)], 2⟩ H' :=
    ⟨h'.ext, h'.len, h'.nd, fun k a o q1 q2 => (h'.obj k a o q1 q2).mono lS rfl, h'.thF, fun q => (by cases q), ⟨fun q => (by cases q), fun q => (by cases q)⟩⟩
  have h3 := h2.closed (M0 := m.M) (S := ⟨A, A, 1⟩) (by show (m.M ++ _).take _ = _; rw [List.take_left' rfl]) rfl h0.cls (fun a ha => by
    have ha : a ∈ [A] := ha
    rw [List.mem_singleton.mp ha]
    exact ⟨_, Nat.le_refl _, eA, _, gA, fun z => by cases z⟩) ⟨1, cells, by decide, hA⟩
  exact vl (.st 1) ⟨m.M, 1⟩ _ H' _ (Wd.le_cut (l.trans lS) (Nat.le_of_eq h0.len)) h3 ⟨⟨A, A, 1⟩, rfl, rfl, rfl⟩ q
theorem take_close (h : Ok P w K mg base x lv ps C_takeO) : Ok P w K mg base x lv ps C_take := h.impV fun vs H Q E ⟨z, w0, ds, m, Φ, Ψ, h0, r, vl, xl, n, hds, hs, hn, hn2, q⟩ => by
  subst hds
  obtain ⟨v1, v2, rfl, ⟨⟨A, c, k⟩, hS, hk, rfl⟩, rfl⟩ := rep2 r
  have hk : k = 1 := hk
  subst hk
  obtain ⟨j, cells, hj, h1, l1⟩ := h0.openedR hs hS
  have e1 : (w0.add A).th[m.M.length]? = some A := by
    show (w0.th ++ [A])[m.M.length]? = some A
    rw [← h0.len, List.getElem?_append_right (Nat.le_refl _)]; simp
  have gA : ∀ i : Int, (m.M ++ [MO.lst ((i :: cells).map D.int)])[m.M.length]? = some (.lst ((i :: cells).map D.int)) := fun i => by
    rw [List.getElem?_append_right (Nat.le_refl _)]; simp
  refine ⟨z, w0.add A, [.hnd m.M.length, .int n], ⟨m.M ++ [.lst ((j :: cells).map D.int)], 2⟩, fun d m' => ∃ (r j' : Int), d = .int r ∧ 1 ≤ j' ∧ 0 ≤ r ∧ r < n ∧ m' = ⟨m.M ++ [.lst ((j' :: cells).map D.int)], 2⟩, XF, h1, ⟨.ref A, _, rfl, ⟨A, rfl, e1⟩, .int n, [], rfl, rfl, rfl⟩, ?_, fun _ _ _ _ _ _ _ _ _ _ _ q => q.elim, m.M.length, j, cells, n, rfl, hn, hn2, hj, gA j, fun r j' hj' hr0 hr1 => ⟨r, j', rfl, hj', hr0, hr1, ?_⟩⟩
  · rintro d m' w' H' v l h' rd ⟨r, j', rfl, hj', hr0, hr1, rfl⟩
    have rd : v = .int r := rd
    subst rd
    have f1 := l.th _ _ e1
    obtain ⟨xs, hA, rx⟩ := h'.obj _ A _ f1 (gA j')
    have ex := ints_ok (ints_map (j' :: cells)) rx
    subst ex
    have lall := l1.trans l
    have hS' : w'.S = some ⟨A, c, 1⟩ := lall.S _ hS
    have h3 := h'.closed (M0 := m.M) (S := ⟨A, c, 1⟩) (by show (m.M ++ _).take _ = _; rw [List.take_left' rfl]) hS' h0.cls (fun a ha => by
      have ha : a ∈ [A] := ha
      rw [List.mem_singleton.mp ha]
      exact ⟨_, Nat.le_refl _, f1, _, gA j', fun z => by cases z⟩) ⟨j', cells, hj', hA⟩
    have em : (⟨m.M, 1⟩ : MM) = m := by rw [← hs]
    rw [em] at h3
    exact vl (.int r) m _ H' _ (Wd.le_cut lall (Nat.le_of_eq h0.len)) h3 rfl (q r hr0 hr1)
  · show (⟨_, 2⟩ : MM) = ⟨_, 2⟩
    congr 1
    rw [List.set_append_right _ _ (Nat.le_refl _)]
    simp
end
local macro_rules | `(tactic| walk_at "dl") => `(tactic| try simp only [dSeq, dSet, dOp, dUn, dVar, dC, dCB, dCons, dNil, dRet, dRetN, dIf, dB, dAnd, dOr, dNot, dDrop, dNext, dMethL, dSetIx, dAndV, dOrV, dNotV, dBlV, dIfE, dLst, dTup, dLstM, dCall, dChain, dAsg, dgName, dgTup, bindD, asT, dFor, diList, diRng1, diRng2, diEnumerate, diZip, diReversed, dLc, dLcM, dYes, wipeD, dAug, dSl, dpN, dpS,
  oI, oI0, oB0, oAdd, oNeg, oEq, oNe, oIx, oIsN, oNotN, isNon, oShl, oApp, oPop, oPopAt, cLen, cInt, cAbs, cSum, cMax2, cMin2, cList, cIsi, tyD, asL, asF, asK, moL_lst, ModC, DivC,
  List.getElem?_cons_zero, List.getElem?_cons_succ, List.set_cons_zero, List.set_cons_succ, List.getElem?_nil, List.length_cons, List.length_nil, List.length_map, Option.map_some, Option.bind_some, Option.isSome_some, if_true, true_and, and_true, MM.push])
def W_stream : DS := dSeq (dSet 1 (dLstM (dCons (dC (.int 1)) (dNil)))) (dSeq (dFor (diList (dSl (dVar 0) (dpN) (dpS (dC (.int 63))))) (dgName 2) (dSeq (dSet 5 (dCB cAbs (dCons (dCB cInt (dCons (dVar 2) (dNil))) (dNil)))) (dFor (diRng1 (dCons (dC (.int 60)) (dNil))) (dgName 4) (dSeq (dDrop (dMethL oApp (dVar 1) (dCons (dOp oMod (dVar 5) (dC (.int 59))) (dNil)))) (dSeq (dSet 5 (dOp oDiv (dVar 5) (dC (.int 59)))) (dIf (dB (dOp oEq (dVar 5) (dC (.int 0)))) (dBreak) (dNext))))))) (dSeq (dSet 3 (dC (.int 7))) (dSeq (dFor (diList (dSl (dVar 0) (dpN) (dpS (dC (.int 63))))) (dgName 2) (dSet 3 (dOp oMod (dCB cInt (dCons (dOp oAdd (dOp oAdd (dOp oMul (dVar 3) (dC (.int 131))) (dVar 2)) (dC (.int 17))) (dNil))) (dC (.int 1000003))))) (dSeq (dFor (diRng1 (dCons (dC (.int 150)) (dNil))) (dgName 4) (dSeq (dSet 3 (dOp oMod (dCB cInt (dCons (dOp oAdd (dOp oAdd (dOp oMul (dVar 3) (dC (.int 48271))) (dOp oMul (dVar 4) (dC (.int 69621)))) (dC (.int 11))) (dNil))) (dC (.int 2147483647)))) (dDrop (dMethL oApp (dVar 1) (dCons (dOp oMod (dOp oDiv (dVar 3) (dC (.int 1009))) (dC (.int 59))) (dNil)))))) (dRet (dVar 1))))))
def W_take : DS := dSeq (dIf (dB (dOp oLt (dOp oIx (dVar 0) (dC (.int 0))) (dCB cLen (dCons (dVar 0) (dNil))))) (dSeq (dSetIx (dOp oAdd (dOp oIx (dVar 0) (dC (.int 0))) (dC (.int 1))) (dVar 0) (dC (.int 0))) (dRet (dOp oMod (dCB cInt (dCons (dOp oIx (dVar 0) (dOp oSub (dOp oIx (dVar 0) (dC (.int 0))) (dC (.int 1)))) (dNil))) (dVar 1)))) (dNext)) (dRet (dC (.int 0)))
theorem rd_stream : ∀ ds m Φ Ψ, ds.length = 1 → C_streamO ds m Φ Ψ → W_stream { nx := fun _ m' => Φ .non m', rt := Φ } (fun _ => Ψ) (ds.map some ++ List.replicate (6 - ds.length) none) m := by
  intro ds m Φ Ψ _ h
  obtain ⟨⟨ns, rfl, hlen⟩, q⟩ := h
  change W_stream _ _ [some (D.rol (ns.map D.int)), none, none, none, none, none] m
  unfold W_stream
  obtain ⟨cs, ecs, lcs⟩ := cut_map (f := D.int) (xs := ns) (l := none) (u := some 63)
  have gx : ∀ l : List Int, (m.M ++ [MO.lst (l.map D.int)])[m.M.length]? = some (MO.lst (l.map D.int)) := fun l => by rw [List.getElem?_append_right (Nat.le_refl _)]; simp
  have st : ∀ (l : List Int) z, (m.M ++ [MO.lst (l.map D.int)]).set m.M.length z = m.M ++ [z] := fun l z => by rw [List.set_append_right _ _ (Nat.le_refl _)]; simp
  have ap : ∀ (l : List Int) (z : Int), (l.map D.int) ++ [D.int z] = (l ++ [z]).map D.int := fun l z => by rw [List.map_append]; rfl
  refine dSeq_k fun k1 h1 => ?_
  walk_at "dl"
  refine ⟨by decide, ?_⟩
  subst h1
  refine dSeq_k fun k1 h1 => ?_
  walk_at "dl"
  rw [ecs]
  refine forW_map (inj := D.int) (fun r ρ m' => ∃ (cells : List Int) (v2 v3 v4 v5 : Option D), ρ = [some (D.rol (ns.map D.int)), some (.hnd m.M.length), v2, v3, v4, v5] ∧ m' = ⟨m.M ++ [.lst ((1 :: cells).map D.int)], m.s⟩ ∧ cells.length + 60 * r.length ≤ 60000) ?_ ?_ cs _ _ ⟨[], _, _, _, _, rfl, rfl, by rw [List.length_nil]; omega⟩
  · rintro c r kk hkk ρ m' ⟨cells, v2, v3, v4, v5, rfl, rfl, hl⟩
    clear h1
    rw [List.length_cons] at hl
    simp only [dgName]
    refine dSeq_k fun k1 h1 => ?_
    walk_at "dl"
    subst h1
    walk_at "dl"
    refine ⟨⟨by decide, by decide⟩, ?_⟩
    simp only [rngD0]
    refine forW_nat (fun i ρ m' => ∃ (cells : List Int) (left : Int) (v4 : Option D), ρ = [some (D.rol (ns.map D.int)), some (.hnd m.M.length), some (.int c), v3, v4, some (.int left)] ∧ m' = ⟨m.M ++ [.lst ((1 :: cells).map D.int)], m.s⟩ ∧ cells.length + 60 * r.length + 60 ≤ 60000 + i) ?_ ?_ ⟨cells, _, _, rfl, rfl, by omega⟩
    · rintro i ki hi hki ρ m' ⟨cells, left, v4, rfl, rfl, hl⟩
      have hi : i < 60 := hi
      simp only [dgName]
      refine dSeq_k fun k1 h1 => ?_
      walk_at "dl"
      simp only [gx, moL_lst, Option.isSome_some, true_and]
      walk_at "dl"
      refine ⟨by decide, by show cells.length + 1 < 16777216; omega, ?_⟩
      rw [st]
      have e1 : (1 :: cells).map D.int ++ [D.int (left % 59)] = (1 :: (cells ++ [left % 59])).map D.int := ap (1 :: cells) _
      rw [e1]
      subst h1
      refine dSeq_k fun k1 h1 => ?_
      walk_at "dl"
      refine ⟨⟨by decide, by decide⟩, ?_⟩
      subst h1
      walk_at "dl"
      refine ⟨rfl, rfl, ?_⟩
      simp only [dBreak]
      split
      · exact hkk _ _ ⟨_, _, _, _, _, rfl, rfl, by rw [List.length_append, List.length_singleton]; omega⟩
      · exact hki _ _ ⟨_, _, _, rfl, rfl, by rw [List.length_append, List.length_singleton]; omega⟩
    · rintro ρ m' ⟨cells, left, v4, rfl, rfl, hl⟩
      have hl : cells.length + 60 * r.length + 60 ≤ 60000 + 60 := hl
      exact hkk _ _ ⟨_, _, _, _, _, rfl, rfl, by omega⟩
  · rintro ρ m' ⟨cells, v2, v3, v4, v5, rfl, rfl, hl⟩
    subst h1
    dsimp only
    refine dSeq_k fun k1 h1 => ?_
    walk_at "dl"
    subst h1
    refine dSeq_k fun k1 h1 => ?_
    walk_at "dl"
    rw [ecs]
    refine forW_map (inj := D.int) (fun _ ρ m' => ∃ (seed : Int) (v2 : Option D), ρ = [some (D.rol (ns.map D.int)), some (.hnd m.M.length), v2, some (.int seed), v4, v5] ∧ m' = ⟨m.M ++ [.lst ((1 :: cells).map D.int)], m.s⟩) ?_ ?_ cs _ _ ⟨7, _, rfl, rfl⟩
    · rintro c r kk hkk ρ m' ⟨seed, v2, rfl, rfl⟩
      walk_at "dl"
      exact ⟨.inr (.inl ⟨by decide, by decide⟩), by decide, hkk _ _ ⟨_, _, rfl, rfl⟩⟩
    · rintro ρ m' ⟨seed, v2, rfl, rfl⟩
      subst h1
      dsimp only
      refine dSeq_k fun k1 h1 => ?_
      walk_at "dl"
      refine ⟨⟨by decide, by decide⟩, ?_⟩
      simp only [rngD0]
      refine forW_nat (fun i ρ m' => ∃ (cells : List Int) (seed : Int) (v4 : Option D), ρ = [some (D.rol (ns.map D.int)), some (.hnd m.M.length), v2, some (.int seed), v4, v5] ∧ m' = ⟨m.M ++ [.lst ((1 :: cells).map D.int)], m.s⟩ ∧ cells.length ≤ 60000 + i) ?_ ?_ ⟨cells, _, _, rfl, rfl, by omega⟩
      · rintro i ki hi hki ρ m' ⟨cells, seed, v4, rfl, rfl, hl⟩
        have hi : i < 150 := hi
        clear h1
        simp only [dgName]
        refine dSeq_k fun k1 h1 => ?_
        walk_at "dl"
        refine ⟨.inr (.inl ⟨by decide, by decide⟩), .inr (.inl ⟨by decide, by decide⟩), by decide, ?_⟩
        subst h1
        walk_at "dl"
        simp only [gx, moL_lst, Option.isSome_some, true_and]
        walk_at "dl"
        refine ⟨⟨by decide, by decide⟩, by decide, by show cells.length + 1 < 16777216; omega, ?_⟩
        rw [st]
        have e1 : ∀ z : Int, (1 :: cells).map D.int ++ [D.int z] = (1 :: (cells ++ [z])).map D.int := fun z => ap (1 :: cells) z
        rw [e1]
        exact hki _ _ ⟨_, _, _, rfl, rfl, by rw [List.length_append, List.length_singleton]; omega⟩
      · rintro ρ m' ⟨cells, seed, v4, rfl, rfl, hl⟩
        subst h1
        walk_at "dl"
        exact q cells
theorem rd_take : ∀ ds m Φ Ψ, ds.length = 2 → C_takeO ds m Φ Ψ → W_take { nx := fun _ m' => Φ .non m', rt := Φ } (fun _ => Ψ) (ds.map some ++ List.replicate (2 - ds.length) none) m := by
  intro ds m Φ Ψ _ h
  obtain ⟨k, j, cells, n, rfl, hn, hn2, hj, hk, q⟩ := h
  change W_take _ _ [some (D.hnd k), some (D.int n)] m
  unfold W_take
  have kl : k < m.M.length := (List.getElem?_eq_some_iff.mp hk).1
  have setk : ∀ x, (m.M.set k x)[k]? = some x := fun x => List.getElem?_set_self kl
  refine dSeq_k fun k1 h1 => ?_
  walk_at "dl"
  simp only [hk, moL_lst]
  rw [List.map_cons]
  refine ⟨_, atI_cons0, ?_⟩
  walk_at "dl"
  by_cases hl : j < ((cells.length + 1 : Nat) : Int)
  · rw [decide_eq_true hl, if_pos rfl]
    simp only [hk, moL_lst, List.map_cons]
    refine ⟨_, atI_cons0, ?_⟩
    walk_at "dl"
    refine ⟨0, ixN0 (by simp), ?_⟩
    walk_at "dl"
    simp only [setk, moL_lst]
    refine ⟨_, atI_cons0, ?_⟩
    walk_at "dl"
    simp only [setk, moL_lst]
    rw [show j + 1 - 1 = j by omega]
    refine ⟨_, atI_gi (xs := (j + 1) :: cells) (by omega) (by rw [List.length_cons]; exact hl), ?_⟩
    walk_at "dl"
    exact ⟨hn, q _ (j + 1) (by omega) (Int.emod_nonneg _ (by omega)) (Int.emod_lt_of_pos _ hn)⟩
  · rw [decide_eq_false hl, if_neg (by decide)]
    subst h1
    walk_at "dl"
    have z := q 0 j hj (by omega) hn
    have e : m.M.set k (.lst ((j :: cells).map D.int)) = m.M := by
      apply List.ext_getElem?
      intro i
      by_cases hi : k = i
      · subst hi; rw [setk]; exact hk.symm
      · rw [List.getElem?_set_ne hi]
    rw [e] at z
    exact z
end Dl

namespace Dl
open PySem L2
/-! ### an own list that will not change any more -/
/-- from here on slot i's list is like a written one -/
def dFrz (i : Nat) (a : DS) : DS := fun N Ψ ρ m => match ρ[i]? with
  | some (some (.hnd k)) => match moL m.M[k]? with
    | some ds => a N Ψ (ρ.set i (some (.lst ds))) ⟨m.M.set k .dead, m.s⟩
    | none => False
  | _ => False
theorem moL_some {o : Option MO} {ds : List D} (h : moL o = some ds) : o = some (.lst ds) := by
  cases o with
  | none => cases h
  | some o =>
    cases o with
    | lst es =>
      have h : some es = some ds := h
      cases h; rfl
    | ins C fs => cases h
    | dead => cases h
theorem js_frz {X : Cx} {E : WX} {st : Stmt} {W : DS} (i : Nat) (h : JS X E st W) : JS X E st (dFrz i W) := PS.imp h fun D σ H ⟨w, ρ, m, Ψ, N, a, n, q⟩ => by
  unfold dFrz at q
  split at q
  · rename_i k e
    split at q
    · rename_i ds em
      obtain ⟨v, e1, A, rfl, eA⟩ := a.s.2 i _ e
      obtain ⟨xs, fa, hx, rr, hf⟩ := a.h.frz eA (moL_some em)
      have l : w.le (w.put A (.lst xs)) := Wd.le_put fa
      have sl : Slots X.K (w.put A (.lst xs)) (σ.set i (some (.ref A))) (ρ.set i (some (.lst ds))) := (a.s.mono l).set i ⟨A, xs, rfl, upd_same, RepAll.mono l _ _ rr⟩
      have es : σ.set i (some (.ref A)) = σ := by
        apply List.ext_getElem?
        intro j
        by_cases hj : i = j
        · subst hj
          rw [List.getElem?_set_self (List.getElem?_eq_some_iff.mp e1).1, e1]
        · rw [List.getElem?_set_ne hj]
      rw [es] at sl
      exact ⟨_, _, _, Ψ, N, ⟨hf, sl, a.x.mono l⟩, n.mono l, q⟩
    · exact q.elim
  · exact q.elim
end Dl

namespace Dl
open PySem L2 PyProof.Rows
/-! ### errors of own classes: made and raised -/
/-- what the written part must say of a class B whose __init__ is ValueError's, called by name -/
structure InitC (K : PySem.W.Frag) (B : Addr) : Prop where
  rd : PySem.W.readsIn K B (.type "type") = true
  ga : PySem.W.specialIn K (.ref B) "__getattribute__" = some (some (.builtin "type.__getattribute__"))
  at_ : PySem.W.findCls K (.ref B) (.type "type") "__init__" = some (.val (.builtin "ValueError.__init__"))
section
variable {X : Cx} {B : Addr} {x : Str} {o e : Expr} {es : List Expr} {ta : TA} {p1 p2 pos : Pos}
theorem pe_binit {pl : Sem Bool} (hg : Gl X x) (hm : X.mg x = some (.ref B)) (T : InitC X.K B) (ha : PA X (e :: es) ta) (hdb : (x == ("__debug__" : Str)) = false := by decide)
    (hc : eval (.Call (.Attribute (.Name x p1) "__init__" p2) (e :: es) [] pos) X.env = (do
      let ov ← eval (.Name x p1) X.env
      standAt p2.atName
      let (f, first) ← holding [ov] (getMethod ov "__init__" pl)
      callWith pos f first (backTo pos (starEach (e :: es) X.env)) (backToKw pos (keywordEach [] X.env))) := by rfl)
    (he : starEach (e :: es) X.env = (false, eval e X.env) :: starEach es X.env := by rfl) (hpl : (backTo pos (starEach es X.env)).any (·.1) = false := by rfl) :
    PE X (.Call (.Attribute (.Name x p1) "__init__" p2) (e :: es) [] pos) (tVeI X.K ta) := by
  constructor
  intro pins s σ H Q I told
  apply PySem.W.methodCall_KW _ hc
  apply ld_glob I hg hm _ hdb
  apply PySem.W.method_cls I.kIn T.ga
  apply PySem.W.cls_value I.kIn T.rd T.at_ (by decide +kernel)
  refine PyProof.Rows.callWith_method1 (wpAny_mono (ha.run pos pins _ σ H _ (I.tok _) told) ?_ fun _ _ z => z) he hpl
  rintro us s1 ⟨vs, H1, I1, rs, a, C, ws, rfl, many, okC, there, go⟩
  match us, rs with
  | u :: ur, .cons ra rr =>
    cases ra
    exact oinit_ok okC I1 there (by rw [← Paired.length rr, sizeLine_eq]; omega) fun s' J => ⟨.non, H1, J, rfl, go⟩
end
/-- the promise of an __init__ that keeps its arguments in the fields fs -/
def spErr (C : Addr) (fs : List Str) : Sp := fun vs H Q _ => ∃ (a : Addr) (ws : List V), vs = .ref a :: ws ∧ ws.length = fs.length ∧ H a = some (exo a C none) ∧
  ∀ dx, H dx = none → dx ≠ a → Q .non (upd (upd H dx (exd dx (fs.zip ws).reverse)) a (exo a C (some dx)))
section
variable {P : Program} {w : World} {K : PySem.W.Frag} {mg : Str → Option Value} {base : Heap}
/-- def __init__(self, y): B.__init__(self, 'text'); self.f = y -/
theorem err_init1 {qual y f t : Str} {st st1 st2 : Stmt} {fI : Addr} {fd : FuncData} {C : Addr} (F : Fun K "__init__" qual st fI fd) (S : FnScope ["self", y] ["self", y] (defScope st)) (hb : defBody st = [st1, st2])
    (g1 : ∀ (cdv : Value) (A : Around) (outer : List PySem.Env) (s : Shared) (H : Hp) (E : XK), PS (cxOf (L2.CX P w) P w K mg base ["self", y] qual (defScope st) fI cdv A outer s H E) st1 (tDrop (tVeI K (tCons (tVar 0) (tCons (tC (.str t)) tNil)))))
    (g2 : ∀ (cdv : Value) (A : Around) (outer : List PySem.Env) (s : Shared) (H : Hp) (E : XK), PS (cxOf (L2.CX P w) P w K mg base ["self", y] qual (defScope st) fI cdv A outer s H E) st2 (tOst K f (tVar 0) (tVar 1)))
    (T2 : OexC K C) (hno : PySem.W.findIn K (.ref C) f = some none) : FnOk P w K mg base (L2.CX P w) 1 fI fd ["self", y] (spErr C [f]) := by
  refine F.okX S (fun vs H Q E ⟨a, ws, e, l, _⟩ => by rw [e, List.length_cons, l]; rfl) fun cdv A outer s H vs Q E hr ⟨a, ws, e, l, ha, q⟩ => ?_
  obtain ⟨v, rfl⟩ : ∃ v, ws = [v] := by
    match ws, l with
    | [v], _ => exact ⟨v, rfl⟩
  rw [hb]
  refine ⟨_, pss_cons (g1 cdv A outer s H E) (pss_one (g2 cdv A outer s H E)), ?_⟩
  subst e
  refine ⟨_, rfl, ⟨a, C, [.str t], rfl, by show 1 ≤ 1000; decide, T2, ha, ?_⟩⟩
  exact ⟨_, rfl, _, rfl, a, C, rfl, T2, hno, .inl ⟨ha, fun dx n ne => q dx n ne⟩⟩
/-- an own error class that can be made -/
structure ErrOk (P : Program) (w : World) (K : PySem.W.Frag) (mg : Str → Option Value) (base : Heap) (c : String) (fs : List String) : Prop where
  mgc : mg (PySem.Str.ofString c) = some (.ref (kcl K c))
  oex : OexC K (kcl K c)
  len : fs.length ≤ 100
  ini : ∃ (fI : Addr) (fd : FuncData) (ps : List Str), PySem.W.findIn K (.ref (kcl K c)) "__init__" = some (some (.ref fI)) ∧ PySem.W.typeIn K (.ref fI) = some (.type "function") ∧ BA fd ps ∧
    FnOk P w K mg base (L2.CX P w) 1 fI fd ps (spErr (kcl K c) (fs.map PySem.Str.ofString))
end
/-- raise C(e, ..): what follows is the wish of the error -/
def dRaise (c : String) (fs : List String) (r : DA) : DS := fun _ Ψ ρ m => r ρ m (fun ds m1 => ds.length = fs.length ∧ Ψ ρ c (fs.zip ds).reverse m1) (Ψ ρ)
theorem RepF.append {K : PySem.W.Frag} {w : Wd} : ∀ {ds es : List (String × D)} {vs us : List (Str × V)}, RepF K w ds vs → RepF K w es us → RepF K w (ds ++ es) (vs ++ us)
  | [], _, _, _, h, g => by
    have q : _ = [] := h
    subst q; exact g
  | (f, d) :: ds, _, _, _, h, g => by
    obtain ⟨v, r, rfl, a, b⟩ := h
    exact ⟨v, _, rfl, a, RepF.append b g⟩
theorem RepF.reverse {K : PySem.W.Frag} {w : Wd} {ds : List (String × D)} {vs : List (Str × V)} (h : RepF K w ds vs) : RepF K w ds.reverse vs.reverse := by
  induction ds generalizing vs with
  | nil =>
    have q : vs = [] := h
    subst q; exact rfl
  | cons d ds ih =>
    obtain ⟨f, d⟩ := d
    obtain ⟨v, r, rfl, a, b⟩ := h
    rw [List.reverse_cons, List.reverse_cons]
    exact RepF.append (ih b) ⟨v, [], rfl, a, rfl⟩
theorem repF_zip {K : PySem.W.Frag} {w : Wd} : ∀ {fs : List String} {ds : List D} {vs : List V}, RepAll K w ds vs → RepF K w (fs.zip ds) ((fs.map PySem.Str.ofString).zip vs)
  | [], _, _, _ => rfl
  | f :: fs, [], vs, r => by
    have e : vs = [] := r
    subst e; exact rfl
  | f :: fs, d :: ds, vs, r => by
    obtain ⟨v, r', rfl, a, b⟩ := r
    exact ⟨v, _, rfl, a, repF_zip b⟩
section
variable {X : Cx} {E : WX} {c : String} {fs : List String} {e : Expr} {es : List Expr} {Ws : DA} {p cpos pos : Pos}
theorem js_raise (hc : X.calm = true) (tk : Takes X E) (G : ErrOk X.prog X.w X.K X.mg X.base c fs) (hg : Gl X (PySem.Str.ofString c)) (hr : Room 2 X.A) (ha : JA X E (e :: es) Ws)
    (hdb : (PySem.Str.ofString c == ("__debug__" : Str)) = false := by decide) (he : starEach (e :: es) X.env = (false, eval e X.env) :: starEach es X.env := by rfl) (hpl : (backTo cpos (starEach es X.env)).any (·.1) = false := by rfl) :
    JS X E (.Raise (some (.Call (.Name (PySem.Str.ofString c) p) (e :: es) [] cpos)) none pos) (dRaise c fs Ws) := by
  obtain ⟨hm, T, hlen, fI, fd, ps, iC, tI, b, F1⟩ := G
  refine PS.imp (ps_raise hc tk (pmk_oex T iC tI F1 hr (Binds.all b) .nil passL hg hm ha hdb he hpl)) fun D σ H ⟨w, ρ, m, Ψ, N, a, n, q⟩ => ?_
  refine ⟨w, ρ, m, Ψ ρ, _, a.at, ?_, q⟩
  intro ds m1 w1 H1 vs l1 h1 r1 ⟨hl, q1⟩
  have hvl : vs.length = fs.length := r1.length.trans hl
  refine ⟨by show vs.length ≤ 1000; omega, fun b hb0 => ⟨b, vs, by rw [List.append_nil], by rw [List.length_map]; exact hvl, upd_same, fun dx hdx hne => ⟨rfl, dx, ((fs.map PySem.Str.ofString).zip vs).reverse, upd_same, ?_, ?_, ?_⟩⟩⟩
  · rw [upd_ne hne, upd_same]
  · rw [upd_ne hne] at hdx
    exact hdx
  · have hd1 : H1 dx = none := by rw [upd_ne hne] at hdx; exact hdx
    have eh : upd (del (upd (upd (upd H1 b (exo b (kcl X.K c) none)) dx (exd dx ((fs.map PySem.Str.ofString).zip vs).reverse)) b (exo b (kcl X.K c) (some dx))) b) dx (.xd ((fs.map PySem.Str.ofString).zip vs).reverse) = upd H1 dx (.xd ((fs.map PySem.Str.ofString).zip vs).reverse) := by
      funext z
      by_cases z1 : z = dx
      · rw [z1, upd_same, upd_same]
      · rw [upd_ne z1, upd_ne z1]
        by_cases z2 : z = b
        · rw [z2, del_same, hb0]
        · rw [del_ne z2, upd_ne z2, upd_ne z1, upd_ne z2]
    rw [eh]
    have lw : w1.le (w1.put dx (.xd ((fs.map PySem.Str.ofString).zip vs).reverse)) := Wd.le_put (h1.nof hd1)
    exact a.x ρ σ w (.refl w) a.s c (fs.zip ds).reverse m1 _ _ dx _ (l1.trans lw) (h1.put hd1) upd_same (RepF.reverse (repF_zip (RepAll.mono lw _ _ r1))) q1
end

/-! ### try .. except B as n -/
/-- L tells of each class whether the clause takes it -/
def dTryAs (i : Nat) (L : List (String × Bool)) (body : DS) (su : Addr → Addr → String → DS) : DS := fun N Ψ ρ m =>
  body N (fun ρ' c fs m' => match L.lookup c with
    | some true => ∀ a d, su a d c { nx := fun ρ2 m2 => N.nx (ρ2.set i none) m2, rt := N.rt, bk := fun ρ2 m2 => N.bk (ρ2.set i none) m2, ct := fun ρ2 m2 => N.ct (ρ2.set i none) m2 } (fun _ => XF) (ρ'.set i (some (.exc a d c fs))) m'
    | some false => Ψ ρ' c fs m'
    | none => False) ρ m
def CatT (K : PySem.W.Frag) (B : String) (L : List (String × Bool)) : Prop := ∀ c b, L.lookup c = some b → PySem.W.exmOne K (.ref (kcl K c)) (.ref (kcl K B)) = some b ∧ PySem.W.kitOne K (.ref (kcl K c)) (.ref (kcl K B)) = some b
theorem catT_nil {K : PySem.W.Frag} {B : String} : CatT K B [] := fun c b h => by cases h
theorem catT_cons {K : PySem.W.Frag} {B c : String} {b : Bool} {L : List (String × Bool)} {C CB : Addr} (e1 : PySem.W.nsIn K mainGlobals (PySem.Str.ofString c) = some (some (.ref C))) (e2 : PySem.W.nsIn K mainGlobals (PySem.Str.ofString B) = some (some (.ref CB)))
    (k1 : PySem.W.subIn K (.ref CB) (.type "BaseException") = some true) (k2 : PySem.W.hasDictIn K CB = true) (k3 : PySem.W.typeIn K (.ref CB) = some (.type "type")) (k4 : PySem.W.subIn K (.ref C) (.ref CB) = some b) (k5 : C = CB → b = true) (r : CatT K B L) : CatT K B ((c, b) :: L) := fun c' b' h => by
  rw [List.lookup_cons] at h
  cases q : c' == c with
  | true =>
    rw [q] at h
    cases h
    have e := beq_iff_eq.mp q
    subst e
    rw [kcl_of e1, kcl_of e2]
    have kc : PySem.W.kitCls K (.ref C) (.ref CB) = some b := by
      have z := PySem.W.exm_ref k1 k2 k3 k4
      unfold PySem.W.exmOne at z
      rw [if_pos (by rw [k1]; rfl)] at z
      exact z
    refine ⟨PySem.W.exm_ref k1 k2 k3 k4, ?_⟩
    unfold PySem.W.kitOne
    by_cases hc : C = CB
    · rw [k5 hc, if_pos (by rw [hc]; exact beq_self_eq_true _)]
    · rw [if_neg (fun z => hc (Value.ref.inj (beq_iff_eq.mp z)))]
      exact kc
  | false => rw [q] at h; exact r c' b' h
section
variable {X : Cx} {E : WX} {B : String} {L : List (String × Bool)} {n : Str} {body suite : List Stmt} {b₀ : Stmt} {np pos pos' : Pos} {t : DS} {su : Addr → Addr → String → DS}
theorem js_try_as (i : Nat) (hN : X.N.Nodup) (hi : X.N[i]? = some n) (tk : Takes X E) (hg : Gl X (PySem.Str.ofString B)) (hm : X.mg (PySem.Str.ofString B) = some (.ref (kcl X.K B))) (T : CatT X.K B L)
    (hb : ∀ (W : WX) (pn : List (Addr × Obj)) (xe : Value → Shared → Prop), Takes (X.tr pn xe) W → PassesOwn (model X.prog X.w) X.A X.env xe → JSs (X.tr pn xe) W body t)
    (hsu : ∀ (a : Addr) (oe : Obj) (c : String) (d : Addr) (pn : List (Addr × Obj)), L.lookup c = some true → Zc (.ref (kcl X.K c)) (some d) oe → (∃ vs, oe.data = .fields vs) → JSs (X.suite a ((a, oe) :: pn)) EF (b₀ :: suite) (su a d c))
    (hln : X.env.kindOf n = some .local := by rfl) (hdb : (PySem.Str.ofString B == ("__debug__" : Str)) = false := by decide) (hs : X.stack = X.env :: X.outer := by rfl) (hf : X.env.frame = some X.env.locals := by rfl) :
    JS X E (.Try body [.ExceptHandler (some (.Name (PySem.Str.ofString B) np)) (some n) (b₀ :: suite) pos'] [] [] pos) (dTryAs i L t su) := by
  refine PS.imp (ps_try_as (tb := fun W => liftS X.K W t) (ts := fun a cls d D σ H => ∃ c dd, cls = .ref (kcl X.K c) ∧ d = some dd ∧ L.lookup c = some true ∧ liftS X.K EF (su a dd c) D σ H) hs hf hN hi hln ⟨hg, hdb, .inl hm⟩ tk hb ?_) ?_
  · intro a oe cls d pn hz hf
    refine ⟨fun pins s σ H D I q => ?_⟩
    obtain ⟨c, dd, rfl, rfl, hl, q⟩ := q
    exact (hsu a oe c dd pn hl hz hf).run pins s σ H D I q
  · rintro D σ H ⟨w, ρ, m, Ψ, N, a, nn, q⟩
    refine ⟨w, ρ, m, _, N, ⟨a.h, a.s, ?_⟩, nn, q⟩
    intro ρ' σ' w1 l1 s1 c fs m' w2 H' d xs l2 h2 hd rf q2
    cases hl : L.lookup c with
    | none =>
      have q3 : (match L.lookup c with
            | some true => ∀ a d, su a d c { nx := fun ρ2 m2 => N.nx (ρ2.set i none) m2, rt := N.rt, bk := fun ρ2 m2 => N.bk (ρ2.set i none) m2, ct := fun ρ2 m2 => N.ct (ρ2.set i none) m2 } (fun _ => XF) (ρ'.set i (some (.exc a d c fs))) m'
            | some false => Ψ ρ' c fs m'
            | none => False) := q2
      rw [hl] at q3
      exact q3.elim
    | some b =>
      refine ⟨b, (T c b hl).1, fun hb a' ha' => ?_, fun hb => ?_⟩
      · subst hb
        have q3 : (match L.lookup c with
            | some true => ∀ a d, su a d c { nx := fun ρ2 m2 => N.nx (ρ2.set i none) m2, rt := N.rt, bk := fun ρ2 m2 => N.bk (ρ2.set i none) m2, ct := fun ρ2 m2 => N.ct (ρ2.set i none) m2 } (fun _ => XF) (ρ'.set i (some (.exc a d c fs))) m'
            | some false => Ψ ρ' c fs m'
            | none => False) := q2
        rw [hl] at q3
        have n2 := nn.mono (l1.trans l2)
        refine ⟨c, d, rfl, rfl, hl, w2, _, m', _, { nx := fun ρ2 m2 => N.nx (ρ2.set i none) m2, rt := N.rt, bk := fun ρ2 m2 => N.bk (ρ2.set i none) m2, ct := fun ρ2 m2 => N.ct (ρ2.set i none) m2 }, ⟨h2, (s1.mono l2).set (d := .exc a' d c fs) i ⟨rfl, xs, hd, rf⟩, fun _ _ _ _ _ => xlift_F⟩, ?_, q3 a' d⟩
        exact ⟨fun ρ3 m3 w3 H3 σ3 l3 h3 s3 q3 => n2.nx _ m3 w3 H3 _ l3 h3 (s3.wipe i) q3, n2.rt, fun ρ3 m3 w3 H3 σ3 l3 h3 s3 q3 => n2.bk _ m3 w3 H3 _ l3 h3 (s3.wipe i) q3, fun ρ3 m3 w3 H3 σ3 l3 h3 s3 q3 => n2.ct _ m3 w3 H3 _ l3 h3 (s3.wipe i) q3⟩
      · subst hb
        have q3 : (match L.lookup c with
            | some true => ∀ a d, su a d c { nx := fun ρ2 m2 => N.nx (ρ2.set i none) m2, rt := N.rt, bk := fun ρ2 m2 => N.bk (ρ2.set i none) m2, ct := fun ρ2 m2 => N.ct (ρ2.set i none) m2 } (fun _ => XF) (ρ'.set i (some (.exc a d c fs))) m'
            | some false => Ψ ρ' c fs m'
            | none => False) := q2
        rw [hl] at q3
        exact a.x ρ' σ' w1 l1 s1 c fs m' w2 H' d xs l2 h2 hd rf q3
end
/-! in the suite -/
/-- what the written part says of an own error class whose instances are looked at -/
structure ErrS (K : PySem.W.Frag) (C : Addr) : Prop where
  ga : PySem.W.findIn K (.ref C) "__getattribute__" = some (some (.builtin "BaseException.__getattribute__"))
  gg : PySem.W.findIn K (.ref C) "__getattr__" = some none
  exC : PySem.W.subIn K (.ref C) (.type "BaseException") = some true
  hdC : PySem.W.hasDictIn K C = true
  ha : PySem.W.findIn K (.ref C) "__class__" = some (some (.builtin "object.__class__"))
  hn : PySem.W.specialIn K (.builtin "object.__class__") "__get__" = some (some (.builtin "getset_descriptor.__get__"))
  ht : PySem.W.takesIn K (.builtin "object.__class__") = some true
  hm : PySem.W.mroIn K C (.type "object") = some true
theorem ErrS.xf {K : PySem.W.Frag} {C : Addr} (h : ErrS K C) : XfC K C := ⟨h.ga, h.gg, h.exC, h.hdC⟩
/-- e.f -/
def dXf (a d : Addr) (f : String) (o : DE) : DE := fun ρ m Φ Ψ => o ρ m (fun x m1 => match x with
  | .exc a' d' _ fs => a' = a ∧ d' = d ∧ ∃ v, fs.lookup f = some v ∧ Φ v m1
  | _ => False) Ψ
section
variable {X : Cx} {a d : Addr} {oe : Obj} {c : String} {pn : List (Addr × Obj)} {o : Expr} {W : DE} {f : String} {pos : Pos}
theorem je_xf (T : ErrS X.K (kcl X.K c)) (hno : PySem.W.findIn X.K (.ref (kcl X.K c)) (PySem.Str.ofString f) = some none) (hz : Zc (.ref (kcl X.K c)) (some d) oe) (hf : ∃ vs, oe.data = .fields vs) (ho : JE (X.suite a ((a, oe) :: pn)) EF o W)
    (hb : attributeBase o (PySem.Str.ofString f) X.env (eval o X.env) = eval o X.env := by rfl) : JE (X.suite a ((a, oe) :: pn)) EF (.Attribute o (PySem.Str.ofString f) pos) (dXf a d f W) :=
  PE.imp (pe_xf T.xf hno hz hf ho hb) fun σ H Q ⟨w, ρ, m, Ψ, Φ, at_, vl, q⟩ => by
  refine ⟨w, ρ, m, Ψ, _, at_, fun x m1 w1 H1 v l1 h1 r1 q1 => ?_, q⟩
  cases x with
  | exc a' d' c' fs =>
    obtain ⟨rfl, rfl, y, hy, q1⟩ := q1
    obtain ⟨rfl, xs, hx, rf⟩ := r1
    obtain ⟨u, hu, ru⟩ := rf.look hy
    exact ⟨rfl, rfl, d', xs, u, rfl, h1.ext _ _ hx, hu, vl y m1 w1 H1 u l1 h1 ru q1⟩
  | _ => exact False.elim q1
/-- isinstance(e, c), e the exception that the suite holds -/
def rIsE2 (K : PySem.W.Frag) (D a dd : Addr) : List V → Hp → VK → Prop := fun xs H Q => ∃ (c : V) (cv : Value) (b : Bool) (fs : List (Str × V)), xs = [.ref a, c] ∧ (∀ u, RelV c u → u = cv) ∧ H dd = some (.xd fs) ∧ PySem.W.kitOne K (.ref D) cv = some b ∧ Q (.bl b) H
theorem kitx_errS {K : PySem.W.Frag} {D x : Addr} {ox : Obj} {od : Option Obj} (T : ErrS K D) : PySem.W.KitX K (.ref x) (.ref D) (fun h => PySem.W.InstAt h x ox D od) where
  ty := fun _ _ _ I => I.type
  it := fun _ _ X _ => by
    obtain ⟨cdD, hcD, _⟩ := PySem.W.any_some T.hdC
    unfold PySem.W.clsIn at hcD
    split at hcD
    · rename_i c' d' cd' sl' ho
      intro A' Q' E' s' k q
      unfold isType loadHead
      exact wpAny_bind (PySem.wpAny_loadPart (k _ _ (X _ _ ho)) (wpAny_pure q))
    · cases hcD
  ne := fun h tp dd its n sl X htp => by
    obtain ⟨cdD, hcD, _⟩ := PySem.W.any_some T.hdC
    refine Bool.eq_false_iff.mpr fun q => ?_
    have e : D = tp := Value.ref.inj (beq_iff_eq.mp q)
    subst e
    unfold PySem.W.clsIn at hcD
    split at hcD
    · rename_i c' d' cd' sl' ho
      have z := (X _ _ ho).symm.trans htp
      cases z
    · cases hcD
  ca := fun X I k => PySem.W.kx_classE X I T.ga T.gg T.exC (PySem.W.findObj_dataE (by obtain ⟨cd, hc, _⟩ := PySem.W.any_some T.hdC; rw [hc]; rfl) T.ha T.hn T.ht) T.hm k
theorem call_isE2 {D dd : Addr} (T : ErrS X.K D) (hz : Zc (.ref D) (some dd) oe) (hf : ∃ vs, oe.data = .fields vs) : CallR (X.suite a ((a, oe) :: pn)) (.builtin "isinstance") (rIsE2 X.K D a dd) := by
  intro pins s σ H xs us Q I r h
  obtain ⟨c, cv, b, fs, rfl, hcv, hdd, e, q⟩ := h
  cases r with
  | cons rx rr =>
    cases rr with
    | cons rt rr =>
      cases rr
      cases rx
      have ec := hcv _ rt
      subst ec
      obtain ⟨hget, _⟩ := I.pin (a, oe) (List.mem_append.mpr (.inl List.mem_cons_self))
      obtain ⟨vs, hv⟩ := hf
      have hx : ObjOk X.prog X.w H s.heap dd (.xd fs) := I.hok dd _ hdd
      obtain ⟨mA, hns, hr⟩ := hx
      obtain ⟨od, ho, hl⟩ := lookIn_ns hns
      have J : PySem.W.InstAt s.heap a oe D (some od) := ⟨hget, hz.1, by unfold PySem.W.notCls; rw [hv] <;> rfl, by rw [hz.2]; exact ho⟩
      exact PySem.W.kia_one (kitx_errS T) I.kIn J e (fun z => nomatch z) fun tk => ⟨.bl b, H, I.kept (t' := tk) fun _ _ z => z, rfl, q⟩
/-- isinstance(e, B) of the caught error -/
def dIsE (a d : Addr) (L : List (String × Bool)) (B : String) (c : String) (o : DE) : DE := fun ρ m Φ Ψ => o ρ m (fun x m1 => match x with
  | .exc a' d' _ _ => a' = a ∧ d' = d ∧ ∃ b, L.lookup c = some b ∧ Φ (.bl b) m1
  | _ => False) Ψ
theorem je_isE {B : String} {L : List (String × Bool)} {p p2 : Pos} (T : ErrS X.K (kcl X.K c)) (TL : CatT X.K B L) (hz : Zc (.ref (kcl X.K c)) (some d) oe) (hf : ∃ vs, oe.data = .fields vs) (hgi : Gl X "isinstance") (hmi : X.mg "isinstance" = none)
    (hg : Gl X (PySem.Str.ofString B)) (hm : X.mg (PySem.Str.ofString B) = some (.ref (kcl X.K B))) (ho : JE (X.suite a ((a, oe) :: pn)) EF o W)
    (hdb : (PySem.Str.ofString B == ("__debug__" : Str)) = false := by decide)
    (he : starEach [o, .Name (PySem.Str.ofString B) p2] X.env = (false, eval o X.env) :: starEach [.Name (PySem.Str.ofString B) p2] X.env := by rfl)
    (he2 : starEach [.Name (PySem.Str.ofString B) p2] X.env = (false, eval (.Name (PySem.Str.ofString B) p2) X.env) :: starEach [] X.env := by rfl)
    (hpl : (backTo pos (starEach [.Name (PySem.Str.ofString B) p2] X.env)).any (·.1) = false := by rfl) :
    JE (X.suite a ((a, oe) :: pn)) EF (.Call (.Name "isinstance" p) [o, .Name (PySem.Str.ofString B) p2] [] pos) (dIsE a d L B c W) :=
  PE.imp (pe_callB (call_isE2 T hz hf) hgi hmi bt_isinstance (pa_cons ho (pa_cons (pe_glob (v := .ref (kcl X.K B)) (u := .ref (kcl X.K B)) hg hm rfl hdb) pa_nil he2) he) (by decide) (by decide) he hpl) fun σ H Q ⟨w, ρ, m, Ψ, Φ, at_, vl, q⟩ => by
  refine ⟨w, ρ, m, Ψ, _, at_, fun x m1 w1 H1 v l1 h1 r1 q1 => ?_, q⟩
  cases x with
  | exc a' d' c' fs =>
    obtain ⟨rfl, rfl, b, hb, q1⟩ := q1
    obtain ⟨rfl, xs, hx, rf⟩ := r1
    exact ⟨_, .ref (kcl X.K B), b, xs, rfl, fun u h => h, h1.ext _ _ hx, (TL c b hb).2, vl (.bl b) m1 w1 H1 _ l1 h1 rfl q1⟩
  | _ => exact False.elim q1
end

/-! ### what the top must say of the classes -/
def Hnos (K : PySem.W.Frag) (C : Addr) (fs : List String) : Prop := ∀ f ∈ fs, PySem.W.findIn K (.ref C) (PySem.Str.ofString f) = some none
structure ErrT (K : PySem.W.Frag) (mg : Str → Option Value) (c : String) (q : Str) (st : Stmt) (ps : List Str) (fs : List String) : Prop where
  mgc : mg (PySem.Str.ofString c) = some (.ref (kcl K c))
  oex : OexC K (kcl K c)
  hno : Hnos K (kcl K c) fs
  ini : ∃ (fI : Addr) (fd : FuncData), PySem.W.findIn K (.ref (kcl K c)) "__init__" = some (some (.ref fI)) ∧ PySem.W.typeIn K (.ref fI) = some (.type "function") ∧ Fun K "__init__" q st fI fd ∧ BA fd ps
theorem errT_mk {K : PySem.W.Frag} {h : Heap} {mg : Str → Option Value} {c : String} {q : Str} {st : Stmt} {ps : List Str} {fs : List String} {C fI : Addr} {od an : Option Addr} {sl : Array (Option Value)} {oc kV dc pm cd ct : Value}
    {nm qq N bs bm sn sub ab col dd k0 k1 k2 k3 k5} (X : K.In h) (G : h.Ns mainGlobals mg)
    (a : PySem.W.nsIn K mainGlobals (PySem.Str.ofString c) = some (some (.ref C)))
    (c1 : K.lookup C = some (excClassObj nm qq C N bs bm true sn sub ab col dd k0 k1 k2 k3 k5 "ValueError.__new__")) (c2 : PySem.HandSPX.refsVE bm = true)
    (c3 : PySem.W.findIn K (.ref C) "__setattr__" = some (some (.builtin "object.__setattr__"))) (c4 : PySem.W.subIn K (.ref C) (.type "BaseException") = some true)
    (c5 : PySem.W.typeIn K (.ref C) = some (.type "type")) (c6 : PySem.W.keepIn K (.ref C) = true) (hno : Hnos K C fs)
    (i1 : PySem.W.findIn K (.ref C) "__init__" = some (some (.ref fI))) (i2 : PySem.W.typeIn K (.ref fI) = some (.type "function"))
    (l : K.lookup fI = some ⟨oc, od, .func (PySem.W.fnOf "__init__" q (defArgs st) (defBody st) (defScope st) .none kV dc pm an cd ct), sl⟩) (cc : PySem.W.codeIn K cd q = true) (k : PySem.W.keepIn K (.ref fI) = true)
    (b : ∀ (kV doc pm : Value) (an : Option Addr) (cdv ct : Value) (us : List Value), us.length = ps.length → bindArgs (PySem.W.fnOf "__init__" q (defArgs st) (defBody st) (defScope st) .none kV doc pm an cdv ct) ⟨us, []⟩ = pure (ps.zip us)) : ErrT K mg c q st ps fs := by
  have e := kcl_of a
  refine ⟨?_, ?_, ?_, fI, _, ?_, i2, fun_mk l cc k, b kV dc pm an cd ct⟩
  · rw [e]; exact PySem.W.mg_of X G a
  · rw [e]; exact ⟨⟨nm, qq, N, bs, bm, sn, sub, ab, col, dd, k0, k1, k2, k3, k5, c1, c2⟩, c3, c4, c5, c6⟩
  · rw [e]; exact hno
  · rw [e]; exact i1
structure InitB (K : PySem.W.Frag) (mg : Str → Option Value) (b : String) : Prop where
  mgb : mg (PySem.Str.ofString b) = some (.ref (kcl K b))
  ini : InitC K (kcl K b)
theorem initB_mk {K : PySem.W.Frag} {h : Heap} {mg : Str → Option Value} {c : String} {C : Addr} (X : K.In h) (G : h.Ns mainGlobals mg) (a : PySem.W.nsIn K mainGlobals (PySem.Str.ofString c) = some (some (.ref C)))
    (rd : PySem.W.readsIn K C (.type "type") = true) (ga : PySem.W.specialIn K (.ref C) "__getattribute__" = some (some (.builtin "type.__getattribute__"))) (at_ : PySem.W.findCls K (.ref C) (.type "type") "__init__" = some (.val (.builtin "ValueError.__init__"))) : InitB K mg c := by
  have e := kcl_of a
  refine ⟨?_, ?_⟩
  · rw [e]; exact PySem.W.mg_of X G a
  · rw [e]; exact ⟨rd, ga, at_⟩
def ErrSs (K : PySem.W.Frag) (L : List (String × Bool)) (fs : List String) : Prop := ∀ c b, L.lookup c = some b → ErrS K (kcl K c) ∧ Hnos K (kcl K c) fs
theorem errSs_nil {K : PySem.W.Frag} {fs : List String} : ErrSs K [] fs := fun c b h => by cases h
theorem errSs_cons {K : PySem.W.Frag} {c : String} {b : Bool} {L : List (String × Bool)} {fs : List String} {C : Addr} (e1 : PySem.W.nsIn K mainGlobals (PySem.Str.ofString c) = some (some (.ref C)))
    (k1 : ErrS K C) (k2 : Hnos K C fs) (r : ErrSs K L fs) : ErrSs K ((c, b) :: L) fs := fun c' b' h => by
  rw [List.lookup_cons] at h
  cases q : c' == c with
  | true =>
    rw [q] at h
    have e := beq_iff_eq.mp q
    subst e
    rw [kcl_of e1]
    exact ⟨k1, k2⟩
  | false => rw [q] at h; exact r c' b' h
theorem je_globE {X : Cx} {E : WX} {x : Str} {i : Int} {pos : Pos} (hg : Gl X x) (hm : ∃ t, X.mg x = some (.int i t)) (hd : (x == ("__debug__" : Str)) = false := by decide) : JE X E (.Name x pos) (dC (.int i)) := by
  obtain ⟨t, hm⟩ := hm
  exact je_globI hg hm hd
theorem dRaise_one {c f : String} {a : DE} {N : DN} {Ψ : XS} {ρ : Dl.Env} {m : MM} : dRaise c [f] (dCons a dNil) N Ψ ρ m = a ρ m (fun x m1 => Ψ ρ c [(f, x)] m1) (Ψ ρ) := by
  simp [dRaise, dCons, dNil]
theorem dRaise_two {c f g : String} {a b : DE} {N : DN} {Ψ : XS} {ρ : Dl.Env} {m : MM} : dRaise c [f, g] (dCons a (dCons b dNil)) N Ψ ρ m = a ρ m (fun x m1 => b ρ m1 (fun y m2 => Ψ ρ c [(g, y), (f, x)] m2) (Ψ ρ)) (Ψ ρ) := by
  simp [dRaise, dCons, dNil]
theorem okE_int {n : Nat} {i : Int} : okE n (.int i) = true := rfl
theorem okE_bl {n : Nat} {b : Bool} : okE n (.bl b) = true := rfl
theorem okE_non {n : Nat} : okE n .non = true := rfl
end Dl

namespace Dl
open PySem L2 PyProof.Rows
/-! ### max, min of a list -/
def cMaxL : DCB := fun ds m Φ => match ds with
  | [d] => match asL m d with
    | some xs => ∃ ns, intsD xs = some ns ∧ 0 < ns.length ∧ ∀ k, k ∈ ns → (∀ y, y ∈ ns → y ≤ k) → Φ (.int k) m
    | none => False
  | _ => False
def cMinL : DCB := fun ds m Φ => match ds with
  | [d] => match asL m d with
    | some xs => ∃ ns, intsD xs = some ns ∧ 0 < ns.length ∧ ∀ k, k ∈ ns → (∀ y, y ∈ ns → k ≤ y) → Φ (.int k) m
    | none => False
  | _ => False
/-! ### shifts -/
def oShr : DO := oI (fun _ j => 0 ≤ j) fun i j => i / 2 ^ j.toNat
/-! ### xs.extend(ys) -/
def oExt : D → List D → MM → (D → MM → Prop) → Prop := fun x ds m Φ => match x, ds with
  | .hnd k, [y] => match moL m.M[k]?, asK m y with
    | some xs, some ys => xs.length + ys.length ≤ LIM ∧ Φ .non ⟨m.M.set k (.lst (xs ++ ys)), m.s⟩
    | _, _ => False
  | _, _ => False
/-! ### in, not in -/
def memD (x : D) (ys : List D) : Bool := ys.any fun y => eqD y x
def oInL (neg : Bool) : DO := fun x y m Φ => match y with
  | .lst ys => okE 64 x = true ∧ okE 64 (.lst ys) = true ∧ Φ (.bl (if neg then !memD x ys else memD x ys)) m
  | .rol ys => okE 64 x = true ∧ okE 64 (.rol ys) = true ∧ Φ (.bl (if neg then !memD x ys else memD x ys)) m
  | _ => False
/-! ### is True, is False -/
def oIsB : DO := fun x y m Φ => match x, y with
  | .bl a, .bl b => Φ (.bl (decide (a = b))) m
  | _, _ => False
def oNotB : DO := fun x y m Φ => match x, y with
  | .bl a, .bl b => Φ (.bl (!decide (a = b))) m
  | _, _ => False
/-! ### any -/
def blsD : List D → Option (List Bool)
  | [] => some []
  | .bl b :: r => (blsD r).map (b :: ·)
  | _ => none
theorem bls_ok {K : PySem.W.Frag} {w : Wd} : ∀ {ds : List D} {vs : List V} {bs : List Bool}, blsD ds = some bs → RepAll K w ds vs → vs = bs.map V.bl
  | [], vs, bs, e, r => by cases e; exact r
  | d :: ds, vs, bs, e, r => by
    obtain ⟨v, r', rfl, rv, rr⟩ := r
    cases d with
    | bl i =>
      have e : (blsD ds).map (i :: ·) = some bs := e
      cases q : blsD ds with
      | none => rw [q] at e; cases e
      | some ns' =>
        rw [q] at e; cases e
        cases (show v = V.bl i from rv)
        rw [bls_ok q rr]; rfl
    | _ => cases e
theorem bls_map : ∀ (ns : List Bool), blsD (ns.map D.bl) = some ns
  | [] => rfl
  | n :: ns => by
    show (blsD (ns.map D.bl)).map (n :: ·) = _
    rw [bls_map ns]; rfl
def cAny : DCB := fun ds m Φ => match ds with
  | [d] => match asL m d with
    | some xs => ∃ bs, blsD xs = some bs ∧ Φ (.bl (bs.any id)) m
    | none => False
  | _ => False
theorem cbl_any {K : PySem.W.Frag} : CbL K (rAny K) cAny := fun w m H ds vs Q Φ h r vl q => by
  unfold cAny at q
  split at q
  · obtain ⟨v, rfl, rv⟩ := rep1 r
    split at q
    · rename_i e
      obtain ⟨ns, e2, q⟩ := q
      obtain ⟨a, us, rfl, ha, ra⟩ := asL_ok h e rv
      exact ⟨a, ns, rfl, by rw [← bls_ok e2 ra]; exact ha, vl.bl h q⟩
    · exact q.elim
  · exact q.elim
/-! ### xs[::-1] -/
def dRevL (a : DE) : DE := fun ρ m Φ Ψ => a ρ m (fun d m1 => match asL m1 d with
  | some ds => Φ (.lst ds.reverse) m1
  | none => False) Ψ
section
variable {X : Cx} {E : WX} {a : Expr} {Wa : DE} {pos : Pos}
end
/-! ### a comprehension over two walks -/
section
variable {X : Cx} {E : WX}
end
end Dl

namespace Dl
open PySem L2 PyProof.Rows
/-! ### objects of own classes -/
def moI : Option MO → Option (String × List (String × D))
  | some (.ins c fs) => some (c, fs)
  | _ => none
theorem moI_ins {c : String} {fs : List (String × D)} : moI (some (.ins c fs)) = some (c, fs) := rfl
/-- o.f -/
def dFld (cs : List String) (f : String) (o : DE) : DE := fun ρ m Φ Ψ => o ρ m (fun x m1 => match x with
  | .hnd k => match moI m1.M[k]? with
    | some (c, fs) => cs.contains c = true ∧ ∃ v, fs.lookup f = some v ∧ Φ v m1
    | none => False
  | _ => False) Ψ
section
variable {X : Cx} {E : WX} {o e : Expr} {Wo We : DE} {f : String} {cs : List String} {pos p' tpos : Pos}
/-- o.f = e -/
def dSetF (cs : List String) (f : String) (e o : DE) : DS := fun N Ψ ρ m => e ρ m (fun v m1 => o ρ m1 (fun x m2 => match x with
  | .hnd k => match moI m2.M[k]? with
    | some (c, fs) => cs.contains c = true ∧ fs.length < 1000 ∧ N.nx ρ ⟨m2.M.set k (.ins c (putD f v fs)), m2.s⟩
    | none => False
  | _ => False) (Ψ ρ)) (Ψ ρ)
/-- o.f += e, of ints -/
def dAugF (cs : List String) (f : String) (g : Int → Int → Int) (e o : DE) : DS := fun N Ψ ρ m => o ρ m (fun x m1 => match x with
  | .hnd k => match moI m1.M[k]? with
    | some (c, fs) => cs.contains c = true ∧ ∃ i, fs.lookup f = some (.int i) ∧ e ρ m1 (fun y m2 => match y, moI m2.M[k]? with
      | .int j, some (c', fs') => c' = c ∧ fs'.length < 1000 ∧ N.nx ρ ⟨m2.M.set k (.ins c (putD f (.int (g i j)) fs')), m2.s⟩
      | _, _ => False) (Ψ ρ)
    | none => False
  | _ => False) (Ψ ρ)
end
/-! ### methods -/
/-- a method of the class c keeps its worth -/
def OkM (P : Program) (w : World) (K : PySem.W.Frag) (base : Heap) (mg : Str → Option Value) (c : String) (mn : String) (lv : Nat) (ps : List Str) (C : DC) : Prop :=
  ∃ f fd, Cls K (kcl K c) ∧ Meth K (kcl K c) (PySem.Str.ofString mn) f ∧ BA fd ps ∧ FnOk P w K mg base (L2.CX P w) lv f fd ps (spOf K ps.length C)
section
variable {P : Program} {w : World} {K : PySem.W.Frag} {base : Heap} {mg : Str → Option Value} {mn : String} {lv n : Nat}
theorem OkM.mono {c : String} {lv' : Nat} {ps : List Str} {C : DC} (h : OkM P w K base mg c mn lv ps C) (l : lv ≤ lv') : OkM P w K base mg c mn lv' ps C := by
  obtain ⟨f, fd, a, b, c, d⟩ := h
  exact ⟨f, fd, a, b, c, d.mono l⟩
end
section
variable {X : Cx} {E : WX} {o e : Expr} {es : List Expr} {ta : TE} {t : TA} {mn : Str} {apos pos : Pos}
end
/-- o.m(..): tab tells each class's worth -/
def dMeth (tab : List (String × DC)) (mn : String) (n : Nat) (o : DE) (r : DA) : DE := fun ρ m Φ Ψ => o ρ m (fun x m1 => match x with
  | .hnd k => match moI m1.M[k]? with
    | some (c, fs) => match tab.lookup c with
      | some C => fs.lookup mn = none ∧ r ρ m1 (fun ds m2 => ds.length = n ∧ C (.hnd k :: ds) m2 Φ Ψ) Ψ
      | none => False
    | none => False
  | _ => False) Ψ
section
variable {X : Cx} {E : WX} {o e : Expr} {es : List Expr} {Wo : DE} {Ws : DA} {mn : String} {apos pos : Pos} {tab : List (String × DC)} {lv n : Nat}
end
/-! ### C(..) -/
def dMake (n : Nat) (c : String) (C : DC) (r : DA) : DE := fun ρ m Φ Ψ => r ρ m (fun ds m1 => ds.length = n ∧ C (.hnd m1.M.length :: ds) (m1.push (.ins c [])) (fun d m2 => d = .non ∧ Φ (.hnd m1.M.length) m2) Ψ) Ψ
section
variable {X : Cx} {E : WX} {e : Expr} {es : List Expr} {Ws : DA} {c : String} {p pos : Pos} {lv : Nat} {ps : List Str} {C : DC}
end
/-! ### a def's own objects let go, others changed -/
def kept (m0 : MM) (M1 : List MO) : Prop := M1.length = m0.M.length ∧ ∀ (i : Nat) o, M1[i]? = some o → m0.M[i]? = some o ∨ clO m0.M.length o = true
theorem kept.rfl {m : MM} : kept m m.M := ⟨_root_.rfl, fun _ _ h => .inl h⟩
theorem kept.set {m : MM} {M1 : List MO} {k : Nat} {o : MO} (h : kept m M1) (c : clO m.M.length o = true) : kept m (M1.set k o) := by
  refine ⟨by rw [List.length_set]; exact h.1, fun i o' e => ?_⟩
  by_cases hi : k = i
  · subst hi
    by_cases hl : k < M1.length
    · rw [List.getElem?_set_self hl] at e
      cases e; exact .inr c
    · rw [List.getElem?_eq_none (by rw [List.length_set]; omega)] at e; cases e
  · rw [List.getElem?_set_ne hi] at e
    exact h.2 i o' e
def retQ (m0 : MM) (Φ : D → MM → Prop) : D → MM → Prop := fun d m' => ∃ M1 L d', m'.M = M1 ++ L ∧ kept m0 M1 ∧ (d' = d ∨ ∃ j ds, d = .hnd (m0.M.length + j) ∧ L[j]? = some (.lst ds) ∧ d' = .lst ds) ∧ clD m0.M.length d' = true ∧ Φ d' ⟨M1, m'.s⟩
def retX (m0 : MM) (Ψ : XP) : XP := fun c fs m' => ∃ M1 L, m'.M = M1 ++ L ∧ kept m0 M1 ∧ clF m0.M.length fs = true ∧ Ψ c fs ⟨M1, m'.s⟩
theorem retX_id {m0 : MM} {Ψ : XP} {c : String} {fs : List (String × D)} (hc : clF m0.M.length fs = true) (q : Ψ c fs m0) : retX m0 Ψ c fs m0 := ⟨m0.M, [], (List.append_nil _).symm, kept.rfl, hc, q⟩
section
variable {P : Program} {w : World} {K : PySem.W.Frag} {mg : Str → Option Value} {base : Heap}
theorem cut_kept {w0 : Wd} {m : MM} {H0 H' : Hp} {w2 : Wd} {m2 : MM} {M1 L : List MO} (h0 : HRep K w0 m H0) (h2 : HRep K w2 m2 H') (e : m2.M = M1 ++ L) (k : kept m M1) : HRep K (w2.cut m.M.length) ⟨M1, m2.s⟩ H' := by
  have et : m2.M.take m.M.length = M1 := by rw [e, ← k.1, List.take_left' rfl]
  have z := h2.cut (n := m.M.length) fun o ho => by
    rw [et] at ho
    obtain ⟨i, hi, rfl⟩ := List.mem_iff_getElem.mp ho
    rcases k.2 i _ (List.getElem?_eq_getElem hi) with q | q
    · exact h0.cls _ (List.mem_of_getElem? q)
    · exact q
  have em : m2.cut m.M.length = ⟨M1, m2.s⟩ := by
    show (⟨m2.M.take m.M.length, m2.s⟩ : MM) = _
    rw [et]
  rw [em] at z
  exact z
theorem okDQ {x qual : Str} {st : Stmt} {f : Addr} {fd : FuncData} {N ps : List Str} {k : Nat} {C : DC} {W : DS} (F : Fun K x qual st f fd) (S : FnScope N ps (defScope st))
    (hb : ∀ (cdv : Value) (A : Around) (outer : List PySem.Env) (s : Shared) (H : Hp) (E : XK), Room k (A.deeper (envOfC qual (defScope st) s.heap.objs.size f cdv)) → JSs (cxOf (L2.CX P w) P w K mg base N qual (defScope st) f cdv A outer s H E) (wishE E) (defBody st) W)
    (hC : ∀ ds m Φ Ψ, ds.length = ps.length → C ds m Φ Ψ → W { nx := fun _ m' => retQ m Φ .non m', rt := retQ m Φ } (fun _ => retX m Ψ) (ds.map some ++ List.replicate (N.length - ds.length) none) m) :
    FnOk P w K mg base (L2.CX P w) (k + 1) f fd ps (spOf K ps.length C) := by
  refine F.okX S (fun vs H Q E h => h.1) fun cdv A outer s H vs Q E hr h => ⟨_, hb cdv A outer s H E hr, ?_⟩
  obtain ⟨hl, w0, ds, m, Φ, Ψ, h0, r, vl, xl, c⟩ := h
  have hd : ds.length = ps.length := r.length.symm.trans hl
  have hlen : w0.th.length = m.M.length := h0.len
  refine ⟨w0, _, m, fun _ => retX m Ψ, _, ⟨h0, slots_start r, fun ρ σ w1 l1 _ C fs m' w' H' d xs l a b c q => ?_⟩, ?_, hC ds m Φ Ψ hd c⟩
  · obtain ⟨M1, L, e, kp, hcl, q⟩ := q
    exact xl C fs ⟨M1, m'.s⟩ (w'.cut m.M.length) H' d xs (Wd.le_cut (l1.trans l) (Nat.le_of_eq hlen)) (cut_kept h0 a e kp) b (RepF.cut _ _ c hcl) q
  have fin : VLift K w0 Q (retQ m Φ) := fun d m' w' H' v l h' rd ⟨M1, L, d', e, kp, hd', hcl, q⟩ => by
    rcases hd' with rfl | ⟨j, es', rfl, ej, rfl⟩
    · exact vl _ _ _ H' v (Wd.le_cut l (Nat.le_of_eq hlen)) (cut_kept h0 h' e kp) (Rep.cut _ _ rd hcl) q
    · obtain ⟨a, rfl, q2⟩ := rd
      have em : m'.M[m.M.length + j]? = some (.lst es') := by
        rw [e, ← kp.1, List.getElem?_append_right (Nat.le_add_right _ _), Nat.add_sub_cancel_left]; exact ej
      obtain ⟨xs, fa, hx, rr, hf⟩ := h'.frz q2 em
      refine vl (.lst es') ⟨M1, m'.s⟩ ((w'.put a (.lst xs)).cut m.M.length) H' _ (Wd.le_cut (l.trans (Wd.le_put fa)) (Nat.le_of_eq hlen)) (cut_kept (m2 := ⟨m'.M.set (m.M.length + j) .dead, m'.s⟩) (L := L.set j .dead) h0 hf ?_ kp) ?_ q
      · show m'.M.set (m.M.length + j) .dead = _
        rw [e, ← kp.1, List.set_append_right _ _ (Nat.le_add_right _ _), Nat.add_sub_cancel_left]
      · exact ⟨a, xs, rfl, upd_same, RepAll.cut _ _ (RepAll.mono (Wd.le_put fa) _ _ rr) hcl⟩
  exact ⟨fun ρ m' w' H' σ l h' _ q => fin .non m' w' H' _ l h' rfl q, fin, fun _ _ _ _ _ _ _ _ q => q.elim, fun _ _ _ _ _ _ _ _ q => q.elim⟩
end
/-! ### what the top must say of the classes -/
end Dl

namespace Dl
open PySem L2 PyProof.Rows
section
variable {X : Cx} {E : WX}
end
/-! ### == where a side may be a list that changes -/
def deref (m : MM) : D → D
  | .hnd k => match moL m.M[k]? with
    | some ds => .lst ds
    | none => .hnd k
  | d => d
def oEqH : DO := fun x y m Φ => okE 64 (deref m x) = true ∧ okE 64 (deref m y) = true ∧ Φ (.bl (eqD (deref m x) (deref m y))) m
def oNeH : DO := fun x y m Φ => okE 64 (deref m x) = true ∧ okE 64 (deref m y) = true ∧ Φ (.bl (!eqD (deref m x) (deref m y))) m
/-- list(x), a list that changes later -/
def cListM : DCB := fun ds m Φ => match ds with
  | [d] => match asL m d with
    | some xs => Φ (.hnd m.M.length) (m.push (.lst xs))
    | none => match asT d with
      | some xs => Φ (.hnd m.M.length) (m.push (.lst xs))
      | none => False
  | _ => False
def cAll : DCB := fun ds m Φ => match ds with
  | [d] => match asL m d with
    | some xs => ∃ bs, blsD xs = some bs ∧ Φ (.bl (bs.all id)) m
    | none => False
  | _ => False
def cTuple : DCB := fun ds m Φ => match ds with
  | [d] => match asL m d with
    | some xs => Φ (.tup xs) m
    | none => match asT d with
      | some _ => Φ d m
      | none => False
  | _ => False
-- kit_all
theorem kq_NoneType_int : kitB "NoneType" "int" = some false := by decide +kernel
theorem kq_NoneType_bool : kitB "NoneType" "bool" = some false := by decide +kernel
theorem kq_NoneType_list : kitB "NoneType" "list" = some false := by decide +kernel
theorem kq_NoneType_tuple : kitB "NoneType" "tuple" = some false := by decide +kernel
theorem kq_NoneType_str : kitB "NoneType" "str" = some false := by decide +kernel
theorem kq_bool_int : kitB "bool" "int" = some true := by decide +kernel
theorem kq_bool_bool : kitB "bool" "bool" = some true := by decide +kernel
theorem kq_bool_list : kitB "bool" "list" = some false := by decide +kernel
theorem kq_bool_tuple : kitB "bool" "tuple" = some false := by decide +kernel
theorem kq_bool_str : kitB "bool" "str" = some false := by decide +kernel
theorem kq_int_int : kitB "int" "int" = some true := by decide +kernel
theorem kq_int_bool : kitB "int" "bool" = some false := by decide +kernel
theorem kq_int_list : kitB "int" "list" = some false := by decide +kernel
theorem kq_int_tuple : kitB "int" "tuple" = some false := by decide +kernel
theorem kq_int_str : kitB "int" "str" = some false := by decide +kernel
theorem kq_str_int : kitB "str" "int" = some false := by decide +kernel
theorem kq_str_bool : kitB "str" "bool" = some false := by decide +kernel
theorem kq_str_list : kitB "str" "list" = some false := by decide +kernel
theorem kq_str_tuple : kitB "str" "tuple" = some false := by decide +kernel
theorem kq_str_str : kitB "str" "str" = some true := by decide +kernel
theorem kq_list_int : kitB "list" "int" = some false := by decide +kernel
theorem kq_list_bool : kitB "list" "bool" = some false := by decide +kernel
theorem kq_list_list : kitB "list" "list" = some true := by decide +kernel
theorem kq_list_tuple : kitB "list" "tuple" = some false := by decide +kernel
theorem kq_list_str : kitB "list" "str" = some false := by decide +kernel
theorem kq_tuple_int : kitB "tuple" "int" = some false := by decide +kernel
theorem kq_tuple_bool : kitB "tuple" "bool" = some false := by decide +kernel
theorem kq_tuple_list : kitB "tuple" "list" = some false := by decide +kernel
theorem kq_tuple_tuple : kitB "tuple" "tuple" = some true := by decide +kernel
theorem kq_tuple_str : kitB "tuple" "str" = some false := by decide +kernel
/-! ### plain data -/
mutual
def plD : D → Bool
  | .non => true
  | .bl _ => true
  | .int _ => true
  | .str x => PyData.strOk x
  | .lst ds => plDs ds
  | .tup ds => plDs ds
  | _ => false
def plDs : List D → Bool
  | [] => true
  | d :: ds => plD d && plDs ds
end
theorem plDs_of : ∀ {ds : List D}, (∀ d ∈ ds, plD d = true) → plDs ds = true
  | [], _ => rfl
  | e :: ds, h => by
    show (plD e && plDs ds) = true
    rw [h e List.mem_cons_self, plDs_of fun d hd => h d (List.mem_cons_of_mem _ hd)]; rfl
mutual
theorem okE_mono : ∀ (d : D) {n k : Nat}, okE n d = true → n ≤ k → okE k d = true
  | .non, _, _, _, _ => rfl
  | .bl _, _, _, _, _ => rfl
  | .int _, _, _, _, _ => rfl
  | .str _, _, _, h, _ => h
  | .lst ds, n, k, h, l => by
    have h : (decide (0 < n) && okEs (n - 1) ds) = true := h
    rw [Bool.and_eq_true] at h
    have h0 := of_decide_eq_true h.1
    show (decide (0 < k) && okEs (k - 1) ds) = true
    rw [decide_eq_true (by omega), okEs_mono ds h.2 (by omega)]; rfl
  | .rol ds, n, k, h, l => by
    have h : (decide (0 < n) && okEs (n - 1) ds) = true := h
    rw [Bool.and_eq_true] at h
    have h0 := of_decide_eq_true h.1
    show (decide (0 < k) && okEs (k - 1) ds) = true
    rw [decide_eq_true (by omega), okEs_mono ds h.2 (by omega)]; rfl
  | .tup ds, n, k, h, l => by
    have h : (decide (0 < n) && okEs (n - 1) ds) = true := h
    rw [Bool.and_eq_true] at h
    have h0 := of_decide_eq_true h.1
    show (decide (0 < k) && okEs (k - 1) ds) = true
    rw [decide_eq_true (by omega), okEs_mono ds h.2 (by omega)]; rfl
  | .rot ds, n, k, h, l => by
    have h : (decide (0 < n) && okEs (n - 1) ds) = true := h
    rw [Bool.and_eq_true] at h
    have h0 := of_decide_eq_true h.1
    show (decide (0 < k) && okEs (k - 1) ds) = true
    rw [decide_eq_true (by omega), okEs_mono ds h.2 (by omega)]; rfl
  | .ty _, _, _, h, _ => nomatch h
  | .cls _, _, _, h, _ => nomatch h
  | .hnd _, _, _, h, _ => nomatch h
  | .st _, _, _, h, _ => nomatch h
  | .exc _ _ _ _, _, _, h, _ => nomatch h
theorem okEs_mono : ∀ (ds : List D) {n k : Nat}, okEs n ds = true → n ≤ k → okEs k ds = true
  | [], _, _, _, _ => rfl
  | d :: ds, n, k, h, l => by
    have h : (okE n d && okEs n ds) = true := h
    rw [Bool.and_eq_true] at h
    show (okE k d && okEs k ds) = true
    rw [okE_mono d h.1 l, okEs_mono ds h.2 l]; rfl
end
theorem okEs_of {n : Nat} : ∀ {ds : List D}, (∀ d ∈ ds, okE n d = true) → okEs n ds = true
  | [], _ => rfl
  | e :: ds, h => by
    show (okE n e && okEs n ds) = true
    rw [h e List.mem_cons_self, okEs_of fun d hd => h d (List.mem_cons_of_mem _ hd)]; rfl
theorem okE_lst {n : Nat} {ds : List D} (h : ∀ d ∈ ds, okE n d = true) : okE (n + 1) (.lst ds) = true := by
  show (decide (0 < n + 1) && okEs (n + 1 - 1) ds) = true
  rw [decide_eq_true (by omega), Nat.add_sub_cancel, okEs_of h]; rfl
mutual
theorem clD_pl {n : Nat} : ∀ (d : D), plD d = true → clD n d = true
  | .non, _ => rfl
  | .bl _, _ => rfl
  | .int _, _ => rfl
  | .str _, _ => rfl
  | .lst ds, h => clAll_pl ds h
  | .tup ds, h => clAll_pl ds h
theorem clAll_pl {n : Nat} : ∀ (ds : List D), plDs ds = true → clAll n ds = true
  | [], _ => rfl
  | d :: ds, h => by
    have h : (plD d && plDs ds) = true := h
    rw [Bool.and_eq_true] at h
    show (clD n d && clAll n ds) = true
    rw [clD_pl d h.1, clAll_pl ds h.2]; rfl
end
/-- data are like themselves -/
theorem eqD_self {d : D} {n : Nat} (o : okE n d = true) : eqD d d = true := SeqAt.eqv_refl _ (okE_lay d n o).1
theorem app_len {M : List MO} {o : MO} : (M ++ [o])[M.length]? = some o := by rw [List.getElem?_append_right (Nat.le_refl _)]; simp
theorem set_app {M : List MO} {o z : MO} : (M ++ [o]).set M.length z = M ++ [z] := by rw [List.set_append_right _ _ (Nat.le_refl _)]; simp
theorem retQ_dead {m : MM} {Φ : D → MM → Prop} {d : D} {L : List MO} (hc : clD m.M.length d = true) (q : Φ d m) : retQ m Φ d ⟨m.M ++ L, m.s⟩ := ⟨m.M, L, d, rfl, kept.rfl, .inl rfl, hc, q⟩
/-! ### repr of None too -/
section
variable {X : Cx} {E : WX} {a : Expr} {Wa : DE} {pos : Pos}
/-- a slice of a tuple, not the whole of it -/
def dSlT (a : DE) (lo hi : DPt) : DE := fun ρ m Φ Ψ => a ρ m (fun d m1 => lo ρ m1 (fun l m2 => hi ρ m2 (fun u m3 => match d with
  | .tup ds => ¬ (HT.sIx ds.length 0 l = 0 ∧ HT.sIx ds.length ds.length u = ds.length) ∧ Φ (.tup (cutD ds l u)) m3
  | _ => False) Ψ) Ψ) Ψ
end
end Dl

namespace Dl
open PySem L2
/-! ### a def that stands under another name; targets that are fields -/
section
variable {X : Cx} {E : WX} {o : Expr} {Wo : DE} {pos : Pos} {js : List Nat}
theorem PGs.imp {ts : List Expr} {t t' : TGs} (h : PGs X ts t) (i : ∀ vs σ H Q, t' vs σ H Q → t vs σ H Q) : PGs X ts t' := ⟨fun pins s σ H vs us Q I r q => h.run pins s σ H vs us Q I r (i vs σ H Q q)⟩
end
end Dl

namespace Dl
open PySem L2
/-! ### a comprehension whose items change the store; [x] * n as a changing list -/
section
variable {X : Cx} {E : WX}
end
end Dl

namespace Dl
open PySem L2
/-! ### a changing list by a comprehension whose items change the store -/
section
variable {X : Cx} {E : WX}
end
end Dl

namespace Dl
open PySem L2
/-! ### a walk over a tuple -/
section
variable {X : Cx} {E : WX}
end
end Dl


namespace Dl
open PySem L2
/-! ### a head by facts: what the top has bound, from one run -/
abbrev AlM : Type := He.Al × Bool
def obsM (fa : List He.Fa) (fn : List He.FnD) (ck : List (PySem.W.Frag → Bool)) (K : PySem.W.Frag) : AlM := (He.obsE fa fn K, ck.all fun f => f K)
def SaysM (fa : List He.Fa) (fn : List He.FnD) (ck : List (PySem.W.Frag → Bool)) (K : PySem.W.Frag) : Prop := obsM fa fn ck K = (He.valE fn, true)
def obsMG (n : Nat) (fa : List He.Fa) (fn : List He.FnD) (ck : List (PySem.W.Frag → Bool)) (g : Addr → Option Obj) : AlM := obsM fa fn ck (He.frG g (List.range n))
def hookM (n : Nat) (fa : List He.Fa) (fn : List He.FnD) (ck : List (PySem.W.Frag → Bool)) : PySem.W.Hook where
  α := AlM
  obs := fun s => obsMG n fa fn ck s.heap.get?
  val := fun _ => (He.valE fn, true)
  says := fun _ h => ∃ K : PySem.W.Frag, K.In h ∧ SaysM fa fn ck K
  of := fun _ _ e => ⟨_, He.frG_in, e⟩
  keeps := fun _ _ _ ⟨K, hK, c⟩ k => ⟨K, PySem.W.Frag.In.keeps hK k, c⟩
theorem obsMG_eq {n : Nat} {fa : List He.Fa} {fn : List He.FnD} {ck : List (PySem.W.Frag → Bool)} {g : Addr → Option Obj} {s : Shared} (h : ∀ a, g a = s.heap.get? a) : obsMG n fa fn ck g = (hookM n fa fn ck).obs s := by
  have e : g = s.heap.get? := funext h
  rw [e] <;> rfl
section
variable {fa : List He.Fa} {fn : List He.FnD} {ck : List (PySem.W.Frag → Bool)} {K : PySem.W.Frag} {h : Heap} {mg : Str → Option Value}
theorem SaysM.e (c : SaysM fa fn ck K) : He.SaysE fa fn K := congrArg (fun z : AlM => z.1) c
theorem SaysM.fact (c : SaysM fa fn ck K) (i : Nat) {f : He.Fa} (hf : fa[i]? = some f) : f.ok K = true := c.e.fact i hf
theorem SaysM.chk (c : SaysM fa fn ck K) (i : Nat) {f : PySem.W.Frag → Bool} (hf : ck[i]? = some f) : f K = true :=
  List.all_eq_true.mp (show (ck.all fun f => f K) = true from congrArg (fun z : AlM => z.2) c) f (List.mem_of_getElem? hf)
theorem defT_he (X : K.In h) (G : h.Ns mainGlobals mg) (c : SaysM fa fn ck K) {x : Str} {st : Stmt} {ps : List Str} (i j k : Nat) (hd : fn[i]? = some ⟨(x, none), x, x, defArgs st, defBody st, defScope st⟩) (hg : fa[j]? = some (.glo x)) (hk : fa[k]? = some (.keep x))
    (b : ∀ (kV doc pm : Value) (an : Option Addr) (cdv ct : Value) (us : List Value), us.length = ps.length → bindArgs (PySem.W.fnOf x x (defArgs st) (defBody st) (defScope st) .none kV doc pm an cdv ct) ⟨us, []⟩ = pure (ps.zip us)) : DefT K mg x st ps := by
  obtain ⟨oc, od, osl, kV, doc, pm, an, cdv, ct, l, cc⟩ := c.e.def_ i hd
  exact ⟨He.ga K x, _, fun_mk l cc (He.keep_ok (c.fact k hk)), He.glo_ok X G (c.fact j hg), b kV doc pm an cdv ct⟩
end
/-! ### own exceptions -/
def oexB (K : PySem.W.Frag) (C : Addr) : Bool := match K.lookup C with
  | some ⟨.type "type", _, .cls cd, sl⟩ => (match cd.mro, sl.toList with
    | .ref C' :: bm, [_, _, _, _, some (.builtin n), _] => C' == C && (n == "ValueError.__new__" && (!cd.hasDel && (cd.hasDict && PySem.HandSPX.refsVE bm)))
    | _, _ => false)
  | _ => false
theorem oexB_ok {K : PySem.W.Frag} {C : Addr} (q : oexB K C = true) : ∃ nm q N bs bm sn sub ab col dd k0 k1 k2 k3 k5, K.lookup C = some (excClassObj nm q C N bs bm true sn sub ab col dd k0 k1 k2 k3 k5 "ValueError.__new__") ∧ PySem.HandSPX.refsVE bm = true := by
  unfold oexB at q
  split at q
  · rename_i dd cd sl ho
    split at q
    · rename_i C' bm k0 k1 k2 k3 n k5 hm hs
      simp only [Bool.and_eq_true, beq_iff_eq, Bool.not_eq_true'] at q
      obtain ⟨rfl, rfl, hdel, hdi, hr⟩ := q
      obtain ⟨nm, bs, mro, ns, qn, hd, sn, sub, ab, col, del⟩ := cd
      dsimp only at hm hdel hdi
      subst hm hdel hdi
      have hsl : sl = #[k0, k1, k2, k3, some (.builtin "ValueError.__new__"), k5] := by
        obtain ⟨l⟩ := sl
        simp only at hs
        rw [hs]
      subst hsl
      exact ⟨nm, qn, ns, bs, bm, sn, sub, ab, col, dd, k0, k1, k2, k3, k5, ho, hr⟩
    · cases q
  · cases q
def errB (c : String) (fs : List String) (K : PySem.W.Frag) : Bool :=
  let C := He.ga K (PySem.Str.ofString c)
  let fI := He.ma K C "__init__"
  He.eqO (PySem.W.nsIn K mainGlobals (PySem.Str.ofString c)) (some (some (.ref C))) && (oexB K C && (He.eqO (PySem.W.findIn K (.ref C) "__setattr__") (some (some (.builtin "object.__setattr__"))) && (decide (PySem.W.subIn K (.ref C) (.type "BaseException") = some true) && (decide (PySem.W.typeIn K (.ref C) = some (.type "type")) && (PySem.W.keepIn K (.ref C) && (fs.all (fun f => He.eqO (PySem.W.findIn K (.ref C) (PySem.Str.ofString f)) (some none)) &&
    (He.eqO (PySem.W.findIn K (.ref C) "__init__") (some (some (.ref fI))) && (decide (PySem.W.typeIn K (.ref fI) = some (.type "function")) && PySem.W.keepIn K (.ref fI)))))))))
def initBB (c : String) (K : PySem.W.Frag) : Bool :=
  let C := He.ga K (PySem.Str.ofString c)
  He.eqO (PySem.W.nsIn K mainGlobals (PySem.Str.ofString c)) (some (some (.ref C))) && (PySem.W.readsIn K C (.type "type") && (He.eqO (PySem.W.specialIn K (.ref C) "__getattribute__") (some (some (.builtin "type.__getattribute__"))) && (match PySem.W.findCls K (.ref C) (.type "type") "__init__" with | some (.val (.builtin n)) => n == "ValueError.__init__" | _ => false)))
section
variable {fa : List He.Fa} {fn : List He.FnD} {ck : List (PySem.W.Frag → Bool)} {K : PySem.W.Frag} {h : Heap} {mg : Str → Option Value}
theorem errT_he (X : K.In h) (G : h.Ns mainGlobals mg) (c : SaysM fa fn ck K) {cl : String} {q : Str} {st : Stmt} {ps : List Str} {fs : List String} (i j : Nat) (hd : fn[i]? = some ⟨(PySem.Str.ofString cl, some "__init__"), "__init__", q, defArgs st, defBody st, defScope st⟩) (hc : ck[j]? = some (errB cl fs))
    (b : ∀ (kV doc pm : Value) (an : Option Addr) (cdv ct : Value) (us : List Value), us.length = ps.length → bindArgs (PySem.W.fnOf "__init__" q (defArgs st) (defBody st) (defScope st) .none kV doc pm an cdv ct) ⟨us, []⟩ = pure (ps.zip us)) : ErrT K mg cl q st ps fs := by
  obtain ⟨oc, od, osl, kV, doc, pm, an, cdv, ct, l, cc⟩ := c.e.def_ i hd
  have e := c.chk j hc
  unfold errB at e
  simp only [Bool.and_eq_true] at e
  obtain ⟨e1, e2, e3, e4, e5, e6, e7, e8, e9, e10⟩ := e
  obtain ⟨nm, qq, N, bs, bm, sn, sub, ab, col, dd, k0, k1, k2, k3, k5, c1, c2⟩ := oexB_ok e2
  exact errT_mk X G (He.eqO_ok e1) c1 c2 (He.eqO_ok e3) (of_decide_eq_true e4) (of_decide_eq_true e5) e6 (fun f hf => He.eqO_ok (List.all_eq_true.mp e7 f hf)) (He.eqO_ok e8) (of_decide_eq_true e9) l cc e10 b
theorem initB_he (X : K.In h) (G : h.Ns mainGlobals mg) (c : SaysM fa fn ck K) {cl : String} (j : Nat) (hc : ck[j]? = some (initBB cl)) : InitB K mg cl := by
  have e := c.chk j hc
  unfold initBB at e
  simp only [Bool.and_eq_true] at e
  obtain ⟨e1, e2, e3, e4⟩ := e
  refine initB_mk X G (He.eqO_ok e1) e2 (He.eqO_ok e3) ?_
  split at e4
  · rename_i n hn
    rw [hn, beq_iff_eq.mp e4]
  · cases e4
end
/-! ### errors that are caught -/
def catB (B : String) (x : String × Bool) (K : PySem.W.Frag) : Bool :=
  let C := He.ga K (PySem.Str.ofString x.1)
  let CB := He.ga K (PySem.Str.ofString B)
  He.eqO (PySem.W.nsIn K mainGlobals (PySem.Str.ofString x.1)) (some (some (.ref C))) && (He.eqO (PySem.W.nsIn K mainGlobals (PySem.Str.ofString B)) (some (some (.ref CB))) && (decide (PySem.W.subIn K (.ref CB) (.type "BaseException") = some true) && (PySem.W.hasDictIn K CB && (decide (PySem.W.typeIn K (.ref CB) = some (.type "type")) && (decide (PySem.W.subIn K (.ref C) (.ref CB) = some x.2) && (!(decide (C = CB)) || x.2))))))
def essB (fs : List String) (x : String × Bool) (K : PySem.W.Frag) : Bool :=
  let C := He.ga K (PySem.Str.ofString x.1)
  He.eqO (PySem.W.nsIn K mainGlobals (PySem.Str.ofString x.1)) (some (some (.ref C))) && (He.eqO (PySem.W.findIn K (.ref C) "__getattribute__") (some (some (.builtin "BaseException.__getattribute__"))) && (He.eqO (PySem.W.findIn K (.ref C) "__getattr__") (some none) && (decide (PySem.W.subIn K (.ref C) (.type "BaseException") = some true) && (PySem.W.hasDictIn K C && (He.eqO (PySem.W.findIn K (.ref C) "__class__") (some (some (.builtin "object.__class__"))) && (He.eqO (PySem.W.specialIn K (.builtin "object.__class__") "__get__") (some (some (.builtin "getset_descriptor.__get__"))) && (decide (PySem.W.takesIn K (.builtin "object.__class__") = some true) && (decide (PySem.W.mroIn K C (.type "object") = some true) && fs.all (fun f => He.eqO (PySem.W.findIn K (.ref C) (PySem.Str.ofString f)) (some none))))))))))
theorem catT_all {K : PySem.W.Frag} {B : String} : ∀ {L : List (String × Bool)}, (L.all fun x => catB B x K) = true → CatT K B L
  | [], _ => catT_nil
  | (c, b) :: L, h => by
    rw [List.all_cons, Bool.and_eq_true] at h
    obtain ⟨h, r⟩ := h
    unfold catB at h
    simp only [Bool.and_eq_true] at h
    obtain ⟨e1, e2, e3, e4, e5, e6, e7⟩ := h
    refine catT_cons (He.eqO_ok e1) (He.eqO_ok e2) (of_decide_eq_true e3) e4 (of_decide_eq_true e5) (of_decide_eq_true e6) (fun z => ?_) (catT_all r)
    rw [decide_eq_true z] at e7
    exact e7
theorem errSs_all {K : PySem.W.Frag} {fs : List String} : ∀ {L : List (String × Bool)}, (L.all fun x => essB fs x K) = true → ErrSs K L fs
  | [], _ => errSs_nil
  | (c, b) :: L, h => by
    rw [List.all_cons, Bool.and_eq_true] at h
    obtain ⟨h, r⟩ := h
    unfold essB at h
    simp only [Bool.and_eq_true] at h
    obtain ⟨e1, e2, e3, e4, e5, e6, e7, e8, e9, e10⟩ := h
    exact errSs_cons (He.eqO_ok e1) ⟨He.eqO_ok e2, He.eqO_ok e3, of_decide_eq_true e4, e5, He.eqO_ok e6, He.eqO_ok e7, of_decide_eq_true e8, of_decide_eq_true e9⟩ (fun f hf => He.eqO_ok (List.all_eq_true.mp e10 f hf)) (errSs_all r)
section
variable {fa : List He.Fa} {fn : List He.FnD} {ck : List (PySem.W.Frag → Bool)} {K : PySem.W.Frag} {h : Heap} {mg : Str → Option Value}
theorem catT_he (c : SaysM fa fn ck K) {B : String} {L : List (String × Bool)} (j : Nat) (hc : ck[j]? = some (fun K => L.all fun x => catB B x K)) : CatT K B L := catT_all (c.chk j hc)
theorem errSs_he (c : SaysM fa fn ck K) {fs : List String} {L : List (String × Bool)} (j : Nat) (hc : ck[j]? = some (fun K => L.all fun x => essB fs x K)) : ErrSs K L fs := errSs_all (c.chk j hc)
theorem gT_he (X : K.In h) (G : h.Ns mainGlobals mg) (c : SaysM fa fn ck K) {B : String} (j : Nat) (hc : fa[j]? = some (.glo (PySem.Str.ofString B))) : mg (PySem.Str.ofString B) = some (.ref (kcl K B)) := He.glo_ok X G (c.fact j hc)
end
/-! a text at the top -/
def strB (x s : Str) : PySem.W.Frag → Bool := fun K => match PySem.W.nsIn K mainGlobals x with
  | some (some (.str z _)) => decide (z.cps.toList = s.cps.toList)
  | _ => false
theorem strT_of {K : PySem.W.Frag} {h : Heap} {mg : Str → Option Value} (X : K.In h) (G : h.Ns mainGlobals mg) {x s : Str} (c : strB x s K = true) : ∃ t, mg x = some (.str s t) := by
  unfold strB at c
  split at c
  · rename_i z t e
    have e2 : z = s := Str.ext' (Array.toList_inj.mp (of_decide_eq_true c))
    subst e2
    exact ⟨t, PySem.W.mg_of X G e⟩
  · cases c
/-! own errors and ValueError -/
def KitV (K : PySem.W.Frag) (B : String) (L : List (String × Bool)) : Prop := ∀ c b, L.lookup c = some b → PySem.W.kitOne K (.ref (kcl K c)) (.type B) = some b
def kitB1 (B : String) (x : String × Bool) (K : PySem.W.Frag) : Bool := decide (PySem.W.kitOne K (.ref (kcl K x.1)) (.type B) = some x.2)
theorem kitV_all {K : PySem.W.Frag} {B : String} : ∀ {L : List (String × Bool)}, (L.all fun x => kitB1 B x K) = true → KitV K B L
  | [], _ => fun c b h => by cases h
  | (c, b) :: L, h => fun c' b' e => by
    rw [List.all_cons, Bool.and_eq_true] at h
    rw [List.lookup_cons] at e
    cases q : c' == c with
    | true =>
      rw [q] at e
      cases e
      rw [beq_iff_eq.mp q]
      exact of_decide_eq_true h.1
    | false =>
      rw [q] at e
      exact kitV_all h.2 c' b' e
theorem kitV_he {fa : List He.Fa} {fn : List He.FnD} {ck : List (PySem.W.Frag → Bool)} {K : PySem.W.Frag} (c : SaysM fa fn ck K) {B : String} {L : List (String × Bool)} (j : Nat) (hc : ck[j]? = some (fun K => L.all fun x => kitB1 B x K)) : KitV K B L := kitV_all (c.chk j hc)
/-! a tuple of texts at the top -/
theorem walk_DE {l : PySem.W.OpenLaw} {k : Nat} {q : Program} {loose : List Str} {XP : (Str → Option Value) → Heap → Prop} {YP : World → Heap → Prop} {d : DefRec} {x : Str}
    (hn : l.most = some 63) (hdf : d.params.defaults = []) (hr : Room k callerA)
    (F : ∀ (w : World) (mg : Str → Option Value) (fa : Addr) (h : Heap), YP w h → h.Ns mainGlobals mg → mg d.name = some (.ref fa) → ∃ (K : PySem.W.Frag) (fd : FuncData), K.In h ∧ (∀ (s : Shared) (u : Value), BindsTo s fd ⟨[u], []⟩ [(x, u)]) ∧
      ∀ base : Heap, K.In base → base.Ns mainGlobals mg → FnOk l.prog w K mg base (L2.CX l.prog w) k fa fd [x] (spOf K 1 (CLaw ClawT))) :
    PySem.W.WalkO q loose XP YP l.row.toRowW d [] (fun f vs => PySem.call f vs) := by
  refine Att.attach_call hn hdf fun w s₀ s₁ mg mb fa o pm cd doc a vs ns G Y ho hd hcd hmg hobj hints hlen hg => ?_
  obtain ⟨K, fd, KX, hb, hF⟩ := F w mg fa _ Y G.T.g hmg
  exact law_call KX G.T.g G.T.b G.T.builtins G.T.nolimit hg hobj hints (Nat.le_trans hlen (by decide)) hr hF hb (fun H hO hS => law_sp hlen hS) fun H e s' z => cx_false z
section
open PySem PySem.W PySem.Calls PyProof.Rows HandSHeadRun
noncomputable abbrev endK (r : OpenRow) (M : Nat) (w : World) (os : OsState) : Option SharedT := endF (stepQ (denQ tabQ) r.prog w) M r.prog w os
noncomputable abbrev lookK (r : OpenRow) (w : World) (s : SharedT) : Bool := looksF r.prog (boot_heap w.params) s.abs
noncomputable abbrev seenK (r : OpenRow) (q : Program) (loose : List PySem.Str) (s : SharedT) := seenQ q loose (importedModules r.prog.main.body) (fun s => xlAt q [] s && recOk r.toRowW.records s) s.abs
theorem runEq_of {r : OpenRow} {q : Program} {H : Hook} {ob : SharedT → H.α} {M : Nat} {loose : List PySem.Str} {w : World}
    (a : ∀ os, (endK r M w os).map (lookK r w) = some true) (b : ∀ os, (endK r M w os).map (seenK r q loose) = some (openGood q loose))
    (c : ∀ os, (endK r M w os).map ob = some (H.val w)) : RunEq r q H ob M loose w := by
  intro os
  obtain ⟨s, h1, h2⟩ := Option.map_eq_some_iff.mp (a os)
  have h3 := b os
  have h4 := c os
  unfold endK at h1 h3 h4
  rw [h1] at h3 h4 ⊢
  have h3 := Option.some.inj h3
  have h4 := Option.some.inj h4
  unfold lookK at h2
  unfold seenK at h3
  exact congrArg some (Prod.ext h2 (Prod.ext h3 h4))
end
theorem obsM_split {fa : List He.Fa} {fn : List He.FnD} {ck : List (PySem.W.Frag → Bool)} {K : PySem.W.Frag} (a : obsM fa [] ck K = ((true, []), true)) (b : obsM [] fn [] K = (He.valE fn, true)) : obsM fa fn ck K = (He.valE fn, true) := by
  have a1 : ((fa.all fun f => f.ok K) && ([] : List He.FnD).all fun d => (He.Fa.code d.at_ d.qual).ok K) = true := congrArg (fun z : AlM => z.1.1) a
  have a2 : (ck.all fun f => f K) = true := congrArg (fun z : AlM => z.2) a
  have b1 : (([] : List He.Fa).all (fun f => f.ok K) && fn.all fun d => (He.Fa.code d.at_ d.qual).ok K) = true := congrArg (fun z : AlM => z.1.1) b
  have b2 : (fn.map fun d => He.fnObs K d.at_) = fn.map He.FnD.val := congrArg (fun z : AlM => z.1.2) b
  have a1 := (Bool.and_eq_true_iff.mp a1).1
  have b1 := (Bool.and_eq_true_iff.mp b1).2
  show ((((fa.all fun f => f.ok K) && fn.all fun d => (He.Fa.code d.at_ d.qual).ok K), fn.map fun d => He.fnObs K d.at_), ck.all fun f => f K) = ((true, fn.map He.FnD.val), true)
  rw [a1, a2, b1, b2]
  rfl
section
open PySem PySem.W PySem.Calls PyProof.Rows HandSHeadRun
theorem runC_of {r : OpenRow} {n M : Nat} {fa : List He.Fa} {fn : List He.FnD} {ck : List (PySem.W.Frag → Bool)} {w : World}
    (a : ∀ os, (endK r M w os).map (fun s => obsMG n fa [] ck (getT s)) = some ((true, []), true)) (b : ∀ os, (endK r M w os).map (fun s => obsMG n [] fn [] (getT s)) = some (He.valE fn, true)) :
    ∀ os, (endK r M w os).map (fun s => obsMG n fa fn ck (getT s)) = some (He.valE fn, true) := by
  intro os
  obtain ⟨s, h1, h2⟩ := Option.map_eq_some_iff.mp (a os)
  have h3 := b os
  rw [h1] at h3 ⊢
  exact congrArg some (obsM_split h2 (Option.some.inj h3))
end
end Dl

namespace K38
open PySem L2 Dl
def top (i : Nat) : Stmt := PySem.Challenge.pw_layerask_k38_texts_that_are_no_conversat.main.body.getD i (.Pass ⟨0, 0, 0, 0⟩)
abbrev s_TextError_init : Stmt := inClass (top 2) 0
theorem sc_TextError_init : FnScope ["self", "line"] ["self", "line"] (defScope s_TextError_init) := ⟨rfl, rfl, rfl, by decide +kernel, rfl, by decide +kernel, by decide +kernel⟩
abbrev s_number_of : Stmt := top 6
theorem sc_number_of : FnScope ["word", "at", "char"] ["word", "at"] (defScope s_number_of) := ⟨rfl, rfl, rfl, by decide +kernel, rfl, by decide +kernel, by decide +kernel⟩
abbrev s_numbers_of : Stmt := top 7
theorem sc_numbers_of : FnScope ["line", "word", "at", "words", "part"] ["line", "word", "at"] (defScope s_numbers_of) := ⟨rfl, rfl, rfl, by decide +kernel, rfl, by decide +kernel, by decide +kernel⟩
abbrev s_read_layer : Stmt := top 8
theorem sc_read_layer : FnScope ["lines", "at", "polynomials"] ["lines", "at"] (defScope s_read_layer) := ⟨rfl, rfl, rfl, by decide +kernel, rfl, by decide +kernel, by decide +kernel⟩
abbrev s_read_talk : Stmt := top 9
theorem sc_read_talk : FnScope ["text", "lines", "throws", "answers", "at", "told"] ["text"] (defScope s_read_talk) := ⟨rfl, rfl, rfl, by decide +kernel, rfl, by decide +kernel, by decide +kernel⟩
abbrev s_last_good : Stmt := top 10
theorem sc_last_good : FnScope ["lines", "at", "due", "k"] ["lines", "at"] (defScope s_last_good) := ⟨rfl, rfl, rfl, by decide +kernel, rfl, by decide +kernel, by decide +kernel⟩
abbrev s__law_stream : Stmt := top 12
theorem sc__law_stream : FnScope ["_law_script", "_law_row", "_law_cell", "_law_seed", "_law_k", "_law_left"] ["_law_script"] (defScope s__law_stream) := ⟨rfl, rfl, rfl, by decide +kernel, rfl, by decide +kernel, by decide +kernel⟩
abbrev s__law_take : Stmt := top 13
theorem sc__law_take : FnScope ["_law_row", "_law_many"] ["_law_row", "_law_many"] (defScope s__law_take) := ⟨rfl, rfl, rfl, by decide +kernel, rfl, by decide +kernel, by decide +kernel⟩
abbrev s__law_lines : Stmt := top 14
theorem sc__law_lines : FnScope ["_law_row", "_law_lines_here", "_law_k", "_law_j"] ["_law_row"] (defScope s__law_lines) := ⟨rfl, rfl, rfl, by decide +kernel, rfl, by decide +kernel, by decide +kernel⟩
abbrev s__law_raised : Stmt := top 15
theorem sc__law_raised : FnScope ["_law_lines_here", "e"] ["_law_lines_here"] (defScope s__law_raised) := ⟨rfl, rfl, rfl, by decide +kernel, rfl, by decide +kernel, by decide +kernel⟩
abbrev s__law_fits : Stmt := top 16
theorem sc__law_fits : FnScope ["_law_lines_here", "_law_at", "_law_word", "_law_before"] ["_law_lines_here", "_law_at"] (defScope s__law_fits) := ⟨rfl, rfl, rfl, by decide +kernel, rfl, by decide +kernel, by decide +kernel⟩
abbrev s__law_due : Stmt := top 17
theorem sc__law_due : FnScope ["_law_lines_here", "_law_at"] ["_law_lines_here"] (defScope s__law_due) := ⟨rfl, rfl, rfl, by decide +kernel, rfl, by decide +kernel, by decide +kernel⟩
abbrev s_law : Stmt := top 18
theorem sc_law : FnScope ["_law_script", "_law_row", "_law_lines_here", "_law_at", "_law_kind", "_law_bad", "_law_word", "_law_more"] ["_law_script"] (defScope s_law) := ⟨rfl, rfl, rfl, by decide +kernel, rfl, by decide +kernel, by decide +kernel⟩
structure Txt (K : PySem.W.Frag) (mg : Str → Option Value) : Prop where
  d_number_of : DefT K mg "number_of" s_number_of ["word", "at"]
  d_numbers_of : DefT K mg "numbers_of" s_numbers_of ["line", "word", "at"]
  d_read_layer : DefT K mg "read_layer" s_read_layer ["lines", "at"]
  d_read_talk : DefT K mg "read_talk" s_read_talk ["text"]
  d_last_good : DefT K mg "last_good" s_last_good ["lines", "at"]
  d__law_stream : DefT K mg "_law_stream" s__law_stream ["_law_script"]
  d__law_take : DefT K mg "_law_take" s__law_take ["_law_row", "_law_many"]
  d__law_lines : DefT K mg "_law_lines" s__law_lines ["_law_row"]
  d__law_raised : DefT K mg "_law_raised" s__law_raised ["_law_lines_here"]
  d__law_fits : DefT K mg "_law_fits" s__law_fits ["_law_lines_here", "_law_at"]
  d__law_due : DefT K mg "_law_due" s__law_due ["_law_lines_here"]
  d_law : DefT K mg "law" s_law ["_law_script"]
  k_MAX_LINES : ∃ t, mg "MAX_LINES" = some (.int 20000 t)
  n_ValueError : mg "ValueError" = none
  n_abs : mg "abs" = none
  n_any : mg "any" = none
  n_int : mg "int" = none
  n_isinstance : mg "isinstance" = none
  n_len : mg "len" = none
  n_max : mg "max" = none
  n_range : mg "range" = none
  n_str : mg "str" = none
  k_DIGITS : ∃ t, mg "DIGITS" = some (.str (PySem.Str.ofString "0123456789") t)
  e_TextError : ErrT K mg "TextError" "TextError.__init__" s_TextError_init ["self", "line"] ["line"]
  i_TextError : InitB K mg "LayeraskError"
  v_ValueError : KitV K "ValueError" [("TextError", true)]
  g_LayeraskError : mg "LayeraskError" = some (.ref (kcl K "LayeraskError"))
  x_LayeraskError : CatT K "LayeraskError" [("TextError", true)]
  g_TextError : mg "TextError" = some (.ref (kcl K "TextError"))
  x_TextError : CatT K "TextError" [("TextError", true)]
  s_LayeraskError : ErrSs K [("TextError", true)] ["line"]
def nm0 : List PySem.Str := ["__name__", "LayeraskError", "TextError", "MAX_LINES", "DIGITS", "number_of", "numbers_of", "read_layer", "read_talk", "last_good", "_law_stream", "_law_take", "_law_lines", "_law_raised", "_law_fits", "_law_due"]
def fa0 : List He.Fa := [.glo "number_of",
  .keep "number_of",
  .glo "numbers_of",
  .keep "numbers_of",
  .glo "read_layer",
  .keep "read_layer",
  .glo "read_talk",
  .keep "read_talk",
  .glo "last_good",
  .keep "last_good",
  .glo "_law_stream",
  .keep "_law_stream",
  .glo "_law_take",
  .keep "_law_take",
  .glo "_law_lines",
  .keep "_law_lines",
  .glo "_law_raised",
  .keep "_law_raised",
  .glo "_law_fits",
  .keep "_law_fits"]
def fa1 : List He.Fa := [.glo "_law_due",
  .keep "_law_due",
  .glo "law",
  .keep "law",
  .int "MAX_LINES" 20000,
  .free "ValueError",
  .free "abs",
  .free "any",
  .free "int",
  .free "isinstance",
  .free "len",
  .free "max",
  .free "range",
  .free "str",
  .glo (PySem.Str.ofString "LayeraskError"),
  .glo (PySem.Str.ofString "TextError")]
def fn0 : List He.FnD := [⟨("number_of", none), "number_of", "number_of", defArgs s_number_of, defBody s_number_of, defScope s_number_of⟩,
  ⟨("numbers_of", none), "numbers_of", "numbers_of", defArgs s_numbers_of, defBody s_numbers_of, defScope s_numbers_of⟩,
  ⟨("read_layer", none), "read_layer", "read_layer", defArgs s_read_layer, defBody s_read_layer, defScope s_read_layer⟩,
  ⟨("read_talk", none), "read_talk", "read_talk", defArgs s_read_talk, defBody s_read_talk, defScope s_read_talk⟩,
  ⟨("last_good", none), "last_good", "last_good", defArgs s_last_good, defBody s_last_good, defScope s_last_good⟩,
  ⟨("_law_stream", none), "_law_stream", "_law_stream", defArgs s__law_stream, defBody s__law_stream, defScope s__law_stream⟩,
  ⟨("_law_take", none), "_law_take", "_law_take", defArgs s__law_take, defBody s__law_take, defScope s__law_take⟩,
  ⟨("_law_lines", none), "_law_lines", "_law_lines", defArgs s__law_lines, defBody s__law_lines, defScope s__law_lines⟩,
  ⟨("_law_raised", none), "_law_raised", "_law_raised", defArgs s__law_raised, defBody s__law_raised, defScope s__law_raised⟩,
  ⟨("_law_fits", none), "_law_fits", "_law_fits", defArgs s__law_fits, defBody s__law_fits, defScope s__law_fits⟩,
  ⟨("_law_due", none), "_law_due", "_law_due", defArgs s__law_due, defBody s__law_due, defScope s__law_due⟩,
  ⟨("law", none), "law", "law", defArgs s_law, defBody s_law, defScope s_law⟩,
  ⟨((PySem.Str.ofString "TextError"), some "__init__"), "__init__", "TextError.__init__", defArgs s_TextError_init, defBody s_TextError_init, defScope s_TextError_init⟩]
def ck0 : List (PySem.W.Frag → Bool) := [strB "DIGITS" (PySem.Str.ofString "0123456789"),
  errB "TextError" ["line"],
  initBB "LayeraskError",
  fun K => ([("TextError", true)] : List (String × Bool)).all fun x => kitB1 "ValueError" x K,
  fun K => ([("TextError", true)] : List (String × Bool)).all fun x => catB "LayeraskError" x K,
  fun K => ([("TextError", true)] : List (String × Bool)).all fun x => catB "TextError" x K,
  fun K => ([("TextError", true)] : List (String × Bool)).all fun x => essB ["line"] x K]
def names : List PySem.Str := nm0
def fa : List He.Fa := fa0 ++ fa1
def fn : List He.FnD := fn0
def ck : List (PySem.W.Frag → Bool) := ck0
abbrev R : PySem.W.OpenRow := PySem.W.OpenLaw.row PySem.Challenge.rw_layerask_k38_texts_that_are_no_conversat
abbrev hk : PySem.W.Hook := hookM 1500 fa fn ck
def ob (s : PySem.W.SharedT) : AlM := obsMG 1500 fa fn ck (HandSHeadRun.getT s)
theorem ob_eq (s : PySem.W.SharedT) : ob s = hk.obs s.abs := obsMG_eq (HandSHeadRun.getT_eq s)
theorem runA (w : World) : ∀ os, (endK R 20000 w os).map (lookK R w) = some true := by
  intro os
  kernel_rfl
theorem runB (w : World) : ∀ os, (endK R 20000 w os).map (seenK R (PySem.W.view R.prog [18]) names) = some (PySem.W.openGood (PySem.W.view R.prog [18]) names) := by
  intro os
  kernel_rfl
theorem runC1 (w : World) : ∀ os, (endK R 20000 w os).map (fun s => obsMG 1500 fa [] ck (HandSHeadRun.getT s)) = some ((true, []), true) := by
  intro os
  kernel_rfl
theorem runC2 (w : World) : ∀ os, (endK R 20000 w os).map (fun s => obsMG 1500 [] fn [] (HandSHeadRun.getT s)) = some (He.valE fn, true) := by
  intro os
  kernel_rfl
theorem run (w : World) : HandSHeadRun.RunEq R (PySem.W.view R.prog [18]) hk ob 20000 names w := runEq_of (runA w) (runB w) (runC_of (runC1 w) (runC2 w))
theorem he_txt {K : PySem.W.Frag} {h : Heap} {mg : Str → Option Value} (X : K.In h) (G : h.Ns mainGlobals mg) (c : SaysM fa fn ck K) : Txt K mg := {
  d_number_of := defT_he X G c 0 0 1 rfl rfl rfl (fun _ _ _ _ _ _ us hl => match us, hl with | [_, _], _ => rfl)
  d_numbers_of := defT_he X G c 1 2 3 rfl rfl rfl (fun _ _ _ _ _ _ us hl => match us, hl with | [_, _, _], _ => rfl)
  d_read_layer := defT_he X G c 2 4 5 rfl rfl rfl (fun _ _ _ _ _ _ us hl => match us, hl with | [_, _], _ => rfl)
  d_read_talk := defT_he X G c 3 6 7 rfl rfl rfl (fun _ _ _ _ _ _ us hl => match us, hl with | [_], _ => rfl)
  d_last_good := defT_he X G c 4 8 9 rfl rfl rfl (fun _ _ _ _ _ _ us hl => match us, hl with | [_, _], _ => rfl)
  d__law_stream := defT_he X G c 5 10 11 rfl rfl rfl (fun _ _ _ _ _ _ us hl => match us, hl with | [_], _ => rfl)
  d__law_take := defT_he X G c 6 12 13 rfl rfl rfl (fun _ _ _ _ _ _ us hl => match us, hl with | [_, _], _ => rfl)
  d__law_lines := defT_he X G c 7 14 15 rfl rfl rfl (fun _ _ _ _ _ _ us hl => match us, hl with | [_], _ => rfl)
  d__law_raised := defT_he X G c 8 16 17 rfl rfl rfl (fun _ _ _ _ _ _ us hl => match us, hl with | [_], _ => rfl)
  d__law_fits := defT_he X G c 9 18 19 rfl rfl rfl (fun _ _ _ _ _ _ us hl => match us, hl with | [_, _], _ => rfl)
  d__law_due := defT_he X G c 10 20 21 rfl rfl rfl (fun _ _ _ _ _ _ us hl => match us, hl with | [_], _ => rfl)
  d_law := defT_he X G c 11 22 23 rfl rfl rfl (fun _ _ _ _ _ _ us hl => match us, hl with | [_], _ => rfl)
  k_MAX_LINES := He.int_ok X G (c.fact 24 rfl)
  n_ValueError := He.free_ok X G (c.fact 25 rfl)
  n_abs := He.free_ok X G (c.fact 26 rfl)
  n_any := He.free_ok X G (c.fact 27 rfl)
  n_int := He.free_ok X G (c.fact 28 rfl)
  n_isinstance := He.free_ok X G (c.fact 29 rfl)
  n_len := He.free_ok X G (c.fact 30 rfl)
  n_max := He.free_ok X G (c.fact 31 rfl)
  n_range := He.free_ok X G (c.fact 32 rfl)
  n_str := He.free_ok X G (c.fact 33 rfl)
  k_DIGITS := strT_of X G (c.chk 0 rfl)
  e_TextError := errT_he X G c 12 1 rfl rfl (fun _ _ _ _ _ _ us hl => match us, hl with | [_, _], _ => rfl)
  i_TextError := initB_he X G c 2 rfl
  v_ValueError := kitV_he c 3 rfl
  g_LayeraskError := gT_he X G c 34 rfl
  x_LayeraskError := catT_he c 4 rfl
  g_TextError := gT_he X G c 35 rfl
  x_TextError := catT_he c 5 rfl
  s_LayeraskError := errSs_he c 6 rfl
  }
end K38
section
open PySem PySem.W PySem.Calls PyProof.Rows
theorem K38.pre (hc : PySem.W.WalkO (PySem.W.view (PySem.W.OpenLaw.row PySem.Challenge.rw_layerask_k38_texts_that_are_no_conversat).prog [18]) K38.names (PySem.W.XL (PySem.W.view (PySem.W.OpenLaw.row PySem.Challenge.rw_layerask_k38_texts_that_are_no_conversat).prog [18]) []) K38.hk.says (PySem.W.OpenRow.toRowW (PySem.W.OpenLaw.row PySem.Challenge.rw_layerask_k38_texts_that_are_no_conversat)) (HandSHeadRun.topDef (PySem.W.OpenLaw.row PySem.Challenge.rw_layerask_k38_texts_that_are_no_conversat).prog 18) [] (fun f vs => PySem.call f vs)) : PySem.Challenge.rw_layerask_k38_texts_that_are_no_conversat.Holds := by
  w_on; o_law
  refine HandSHeadRun.head_any (r := PySem.W.OpenLaw.row PySem.Challenge.rw_layerask_k38_texts_that_are_no_conversat) (q := PySem.W.view (PySem.W.OpenLaw.row PySem.Challenge.rw_layerask_k38_texts_that_are_no_conversat).prog [18]) (H := K38.hk) (ob := K38.ob) (M := 20000) (loose := K38.names) (d := HandSHeadRun.topDef (PySem.W.OpenLaw.row PySem.Challenge.rw_layerask_k38_texts_that_are_no_conversat).prog 18) (kwd := []) K38.ob_eq
    (by kernel_rfl) (fun s => by kernel_rfl) K38.run (by kernel_rfl) (by kernel_rfl) (by kernel_rfl) (by rfl) (by first | assumption | decide +kernel) (by decide +kernel) ⟨rfl, rfl, rfl, rfl, rfl, by decide +kernel⟩ ?hw hc
  case hw => w_witness2
end
namespace Dl
open PySem L2
/-! ### texts -/
theorem repAll_strs {K : PySem.W.Frag} {w : Wd} : ∀ ys : List Str, RepAll K w (ys.map D.str) (ys.map V.str)
  | [] => rfl
  | y :: ys => ⟨.str y, _, rfl, rfl, repAll_strs ys⟩
theorem repAll_strs_eq {K : PySem.W.Frag} {w : Wd} : ∀ {ys : List Str} {vs : List V}, RepAll K w (ys.map D.str) vs → vs = ys.map V.str
  | [], _, h => h
  | y :: ys, _, h => by
    obtain ⟨v, r, rfl, a, b⟩ := h
    rw [show v = V.str y from a, repAll_strs_eq b]
    rfl
/-- a method of a text with one argument -/
def dMethS (c : Str → D → MM → (D → MM → Prop) → Prop) (o r : DE) : DE := fun ρ m Φ Ψ => o ρ m (fun x m1 => match x with
  | .str a => r ρ m1 (fun y m2 => c a y m2 Φ) Ψ
  | _ => False) Ψ
def MtS (K : PySem.W.Frag) (r : V → List V → Hp → VK → Prop) (c : Str → D → MM → (D → MM → Prop) → Prop) : Prop := ∀ w m H a y v Q Φ, HRep K w m H → Rep K w y v → VLift K w Q Φ → c a y m Φ → r (.str a) [v] H Q
section
variable {X : Cx} {E : WX} {o e : Expr} {Wo We : DE}
theorem je_mS {id : String} {name : Str} {apos pos : Pos} {r : V → List V → Hp → VK → Prop} {c : Str → D → MM → (D → MM → Prop) → Prop} (slot : Slot "str" name id) (ty : typeOf (.builtin id) = pure (.type "method_descriptor")) (rule : MtR X id r) (hl : MtS X.K r c) (ho : JE X E o Wo) (he : JE X E e We)
    (hs : starEach [e] X.env = [(false, eval e X.env)] := by rfl) (hbase : attributeBase o name X.env (eval o X.env) = eval o X.env := by rfl) (hline : (apos.endLine == pos.line) = true := by rfl) : JE X E (.Call (.Attribute o name apos) [e] [] pos) (dMethS c Wo We) :=
  PE.imp (pe_m1 slot ty rule ho he hs hbase hline) fun σ H Q ⟨w, ρ, m, Ψ, Φ, a, vl, h⟩ => by
    refine ⟨w, ρ, m, Ψ, _, a, fun d m1 w1 H1 v l1 h1 r1 q1 => ?_, h⟩
    split at q1
    · rename_i z
      have r1 : v = .str z := r1
      subst r1
      exact ⟨⟨z, rfl⟩, w1, ρ, m1, Ψ, _, a.to l1 h1, fun y m2 w2 H2 u l2 h2 r2 q2 => hl w2 m2 H2 z y u Q Φ h2 r2 (vl.mono (l1.trans l2)) q2, q1⟩
    · exact q1.elim
end
def oSplit : Str → D → MM → (D → MM → Prop) → Prop := fun a y m Φ => match y with
  | .str b => (b.length == 0) = false ∧ a.length + 2 ≤ LIM ∧ Φ (.lst ((Txt.split a b).map D.str)) m
  | _ => False
theorem mts_split {K : PySem.W.Frag} : MtS K (fun x xs H Q => ∃ a b, x = .str a ∧ xs = [.str b] ∧ (b.length == 0) = false ∧ a.length + 2 ≤ sizeLine ∧ rNewStrs (Txt.split a b) H Q) oSplit := fun w m H a y v Q Φ h r vl q => by
  unfold oSplit at q
  split at q
  · rename_i b
    obtain ⟨q1, q2, q3⟩ := q
    exact ⟨a, b, rfl, by rw [show v = V.str b from r], q1, lim_sz q2, fun p hp => vl _ m _ _ _ (Wd.le_put (h.nof hp)) (h.put hp) (rep_put_lst h hp (repAll_strs _)) q3⟩
  · exact q.elim
def oJoin : Str → D → MM → (D → MM → Prop) → Prop := fun a y m Φ => ∃ ys : List Str, asL m y = some (ys.map D.str) ∧ (ys.map (·.length)).sum + ys.length * a.length ≤ LIM ∧ Φ (.str (Txt.join a ys)) m
theorem mts_join {K : PySem.W.Frag} : MtS K (fun x xs H Q => ∃ a p, ∃ ys : List Str, x = .str a ∧ xs = [.ref p] ∧ (SqL K H p (ys.map V.str) ∨ SqT K H p (ys.map V.str)) ∧
    (ys.map (·.length)).sum + ys.length * a.length ≤ 16777216 ∧ Q (.str (Txt.join a ys)) H) oJoin := fun w m H a y v Q Φ h r vl q => by
  obtain ⟨ys, e, z, q⟩ := q
  obtain ⟨p, us, rfl, ha, ra⟩ := asL_ok h e r
  exact ⟨a, p, ys, rfl, rfl, .inl (by rw [← repAll_strs_eq ra]; exact ha), z, vl (.str (Txt.join a ys)) m w H _ (.refl w) h rfl q⟩
/-! str of an int, int of a text -/
def cStr : DCB := fun ds m Φ => match ds with
  | [.int i] => i.natAbs.log2 < 1920 ∧ Φ (.str (PySem.Str.ofString (toString i))) m
  | _ => False
theorem cbl_str {K : PySem.W.Frag} : CbL K (fun xs H Q => ∃ i, xs = [V.int i] ∧ i.natAbs.log2 < 1920 ∧ Q (.str (PySem.Str.ofString (toString i))) H) cStr := fun w m H ds vs Q Φ h r vl q => by
  unfold cStr at q
  split at q
  · obtain ⟨v, rfl, rv⟩ := rep1 r
    cases (show v = V.int _ from rv)
    exact ⟨_, rfl, q.1, vl (.str _) m w H _ (.refl w) h rfl q.2⟩
  · exact q.elim
def cIntS : DCB := fun ds m Φ => match ds with
  | [.str a] => ∃ n, PySem.intText? a = some n ∧ a.length ≤ 640 ∧ Φ (.int n) m
  | _ => False
theorem cbl_intS {K : PySem.W.Frag} : CbL K (fun xs H Q => ∃ a n, xs = [V.str a] ∧ PySem.intText? a = some n ∧ a.length ≤ 640 ∧ Q (.int n) H) cIntS := fun w m H ds vs Q Φ h r vl q => by
  unfold cIntS at q
  split at q
  · rename_i a
    obtain ⟨v, rfl, rv⟩ := rep1 r
    obtain ⟨n, e, z, q⟩ := q
    exact ⟨a, n, by rw [show v = V.str a from rv], e, z, vl.int h q⟩
  · exact q.elim
/-! the characters of a text -/
def sgD (c : Nat) : D := .str ⟨#[c]⟩
def diStr (e : DE) : DI := fun ρ m Φ Ψ => e ρ m (fun d m1 => match d with
  | .str x => Φ (x.cps.toList.map sgD) m1
  | _ => False) Ψ
theorem wlk_str {K : PySem.W.Frag} {w : Wd} {x : Str} : Wlk K w (Its x) (x.cps.toList.map sgD) where
  go := fun w1 m H i d l h e => by
    rw [List.getElem?_map, Array.getElem?_toList] at e
    cases q : x.cps[i]? with
    | none => rw [q] at e; cases e
    | some c => exact (Array.getElem?_eq_some_iff.mp q).1
  stop := fun w1 m H l h => by rw [List.length_map, Array.length_toList]; exact Nat.le_refl _
  yld := fun w1 m H i d v H' l h e y => by
    obtain ⟨rfl, c, e1, rfl⟩ := y
    rw [List.getElem?_map, Array.getElem?_toList, e1] at e
    injection e with e
    subst e
    exact ⟨w1, .refl w1, h, rfl⟩
theorem ji_str {X : Cx} {E : WX} {tg a : Expr} {Wa : DE} (h : JE X E a Wa) : JI X E tg a (diStr Wa) := PI.imp (pi_str h) fun σ H R ⟨w, ρ, m, Ψ, Φ, a, n, h⟩ => by
  refine ⟨w, ρ, m, Ψ, _, a, fun d m1 w1 H1 v l1 h1 r1 q1 => ?_, h⟩
  split at q1
  · rename_i x
    exact ⟨x, r1, n _ m1 w1 H1 _ l1 h1 wlk_str q1⟩
  · exact q1.elim
/-! a character in a text -/
def oInS (neg : Bool) : DO := fun x y m Φ => ∃ (c : Nat) (z : Str), x = sgD c ∧ y = .str z ∧ Φ (.bl (if neg then !decide (c ∈ z.cps.toList) else decide (c ∈ z.cps.toList))) m
theorem opl_notInS {K : PySem.W.Frag} : OpL K (fun x y H Q => ∃ (c : Nat) (z : Str), x = .str ⟨#[c]⟩ ∧ y = .str z ∧ Q (.bl (!decide (c ∈ z.cps.toList))) H) (oInS true) := fun w m H x y u v Q Φ h r1 r2 vl q => by
  obtain ⟨c, z, rfl, rfl, q⟩ := q
  exact ⟨c, z, r1, r2, vl (.bl _) m w H _ (.refl w) h rfl q⟩
/-! a constant of the module that is a text -/
theorem je_globS {X : Cx} {E : WX} {x : Str} {s : Str} {pos : Pos} (hg : Gl X x) (hm : ∃ t, X.mg x = some (.str s t)) (hd : (x == ("__debug__" : Str)) = false := by decide) : JE X E (.Name x pos) (dC (.str s)) := by
  obtain ⟨t, hm⟩ := hm
  exact je_of (v := .str s) (pe_glob hg hm ⟨t, rfl⟩ hd) fun _ => rfl

local macro_rules | `(tactic| walk_at "dl") => `(tactic| try simp only [dSeq, dSet, dRaise_one, dRaise_two, dTryAs, dXf, dIsE, List.lookup_cons, List.lookup_nil, beq_self_eq_true, Bool.false_eq_true, if_false, dOp, dUn, dVar, dC, dCB, dCons, dNil, dRet, dRetN, dIf, dB, dAnd, dOr, dNot, dDrop, dNext, dMethL, dSetIx, dAndV, dOrV, dNotV, dBlV, dIfE, dLst, dTup, dLstM, dCall, dChain, dAsg, dgName, dgTup, bindD, asT, dFor, diList, diRng1, diRng2, diEnumerate, diZip, diReversed, dLc, dLcM, dYes, wipeD, dAug, dSl, dSlT, dpN, dpS,
  oI, oI0, oB0, oAdd, oNeg, oEq, oNe, oIx, oIsN, oNotN, isNon, oShl, oApp, oPop, oPopAt, cLen, cInt, cAbs, cSum, cMax2, cMin2, cList, cIsi, tyD, asL, asF, asK, moL_lst, ModC, DivC,
  List.getElem?_cons_zero, List.getElem?_cons_succ, List.set_cons_zero, List.set_cons_succ, List.getElem?_nil, List.length_cons, List.length_nil, List.length_map, Option.map_some, Option.bind_some, Option.isSome_some, if_true, true_and, and_true, MM.push])
local macro_rules | `(tactic| walk_at "dx") => `(tactic| try simp only [eq_self_iff_true, okE_int, okE_bl, okE_non, eqD_int, eqD_bl, kq_NoneType_int, kq_NoneType_bool, kq_NoneType_list, kq_NoneType_tuple, kq_NoneType_str, kq_bool_int, kq_bool_bool, kq_bool_list, kq_bool_tuple, kq_bool_str, kq_int_int, kq_int_bool, kq_int_list, kq_int_tuple, kq_int_str, kq_str_int, kq_str_bool, kq_str_list, kq_str_tuple, kq_str_str, kq_list_int, kq_list_bool, kq_list_list, kq_list_tuple, kq_list_str, kq_tuple_int, kq_tuple_bool, kq_tuple_list, kq_tuple_tuple, kq_tuple_str, dMethS, oSplit, oJoin, cStr, cIntS, diStr, oInS, oInL, oIsB, oNotB, oEqH, oNeH, oShr, oExt, cMaxL, cMinL, cAny, cAll, cTuple, cListM, dRevL, dFld, dSetF, dAugF, dMeth, dMake, moI_ins, app_len, set_app, List.contains_cons, List.contains_nil, Bool.true_or,  Bool.true_eq_false, decide_true, not_true_eq_false, not_false_eq_true, Bool.not_true, Bool.not_false, decide_eq_true_eq, Bool.not_eq_true', decide_eq_false_iff_not, dSeq, dSet, dRaise_one, dRaise_two, dTryAs, dXf, dIsE, List.lookup_cons, List.lookup_nil, beq_self_eq_true, Bool.false_eq_true, if_false, dOp, dUn, dVar, dC, dCB, dCons, dNil, dRet, dRetN, dIf, dB, dAnd, dOr, dNot, dDrop, dNext, dMethL, dSetIx, dAndV, dOrV, dNotV, dBlV, dIfE, dLst, dTup, dLstM, dCall, dChain, dAsg, dgName, dgTup, bindD, asT, dFor, diList, diRng1, diRng2, diEnumerate, diZip, diReversed, dLc, dLcM, dYes, wipeD, dAug, dSl, dSlT, dpN, dpS,
  oI, oI0, oB0, oAdd, oNeg, oEq, oNe, oIx, oIsN, oNotN, isNon, oShl, oApp, oPop, oPopAt, cLen, cInt, cAbs, cSum, cMax2, cMin2, cList, cIsi, tyD, asL, asF, asK, moL_lst, ModC, DivC,
  List.getElem?_cons_zero, List.getElem?_cons_succ, List.set_cons_zero, List.set_cons_succ, List.getElem?_nil, List.length_cons, List.length_nil, List.length_map, Option.map_some, Option.bind_some, Option.isSome_some, if_true, true_and, and_true, MM.push])
local macro_rules | `(tactic| walk_at "lim") => `(tactic| repeat (first | (refine ⟨by decide, ?_⟩) | (refine ⟨by (try simp only [List.length_map, List.length_dropLast, List.length_append, List.length_cons, List.length_nil, List.length_replicate, List.length_take, List.length_drop, List.length_range]); (show _ ≤ 16777216); omega, ?_⟩)))

set_option hygiene false in
local macro_rules | `(tactic| walk_at "stp") => `(tactic| (refine dSeq_k fun k1 h1 => ?_; walk_at "dx"))
set_option hygiene false in
local macro_rules | `(tactic| walk_at "nxt") => `(tactic| (subst h1; (try dsimp only); refine dSeq_k fun k1 h1 => ?_; walk_at "dx"))
set_option hygiene false in
local macro_rules | `(tactic| walk_at "lst") => `(tactic| (subst h1; (try dsimp only); walk_at "dx"))
set_option hygiene false in
local macro_rules | `(tactic| walk_at "nxt2") => `(tactic| (subst h2; (try dsimp only); refine dSeq_k fun k2 h2 => ?_; walk_at "dx"))
set_option hygiene false in
local macro_rules | `(tactic| walk_at "stp2") => `(tactic| (refine dSeq_k fun k2 h2 => ?_; walk_at "dx"))
set_option hygiene false in
local macro_rules | `(tactic| walk_at "lst2") => `(tactic| (subst h2; (try dsimp only); walk_at "dx"))
set_option hygiene false in
local macro_rules | `(tactic| walk_at "nx0") => `(tactic| (subst h1; (try dsimp only); refine dSeq_k fun k1 h1 => ?_))

/-! ### the text of a conversation -/
def tS (l : List Nat) : D := .str (SX.S l)
def wTalk : List Nat := [116, 97, 108, 107]
def wThrows : List Nat := [116, 104, 114, 111, 119, 115]
def wLayer : List Nat := [108, 97, 121, 101, 114]
def wPoly : List Nat := [112, 111, 108, 121]
def wLine : List Nat := [108, 105, 110, 101]
def wEnd : List Nat := [101, 110, 100]
theorem s_talk : PySem.Str.ofString "talk" = SX.S wTalk := by decide
theorem s_throws : PySem.Str.ofString "throws" = SX.S wThrows := by decide
theorem s_layer : PySem.Str.ofString "layer" = SX.S wLayer := by decide
theorem s_poly : PySem.Str.ofString "poly" = SX.S wPoly := by decide
theorem s_line : PySem.Str.ofString "line" = SX.S wLine := by decide
theorem s_end : PySem.Str.ofString "end" = SX.S wEnd := by decide
theorem s_nl : PySem.Str.ofString "\n" = SX.S [10] := by decide
theorem s_sp : PySem.Str.ofString " " = SX.S [32] := by decide
theorem s_no : PySem.Str.ofString "" = SX.S [] := by decide
theorem s_0 : PySem.Str.ofString "0" = SX.S [48] := by decide
def NumOK (zs : List Int) : Prop := ∀ z ∈ zs, 0 ≤ z ∧ z < 10000000000
def numZ (z : Int) : List Nat := TL.numL z.toNat
def lineN (w : List Nat) (zs : List Int) : List Nat := TL.joinL [32] (w :: zs.map numZ)
def ansT (a : List (List Int) × List Int) : D := .tup [.lst (a.1.map fun r => .lst (r.map D.int)), .lst (a.2.map D.int)]
theorem okE_S {n : Nat} {l : List Nat} (h : ∀ c ∈ l, c < 1114112) : okE n (tS l) = true := by
  have e : okE n (tS l) = PyData.strOk (SX.S l) := by cases n <;> rfl
  rw [e]
  unfold PyData.strOk
  rw [Array.all_eq_true']
  intro c hc
  have hc : c ∈ l := by
    have z : c ∈ (SX.S l).cps.toList := Array.mem_def.mp hc
    exact z
  exact decide_eq_true (h c hc)
theorem eqD_S {a b : List Nat} : eqD (tS a) (tS b) = decide (a = b) := by
  show (SX.S a == SX.S b) = _
  exact SX.S_beq_eq
theorem numZ_range {z : Int} : ∀ c ∈ numZ z, 48 ≤ c ∧ c ≤ 57 := fun c hc => by
  have := TL.numL_digits z.toNat c hc
  omega
theorem numZ_ne {z : Int} : numZ z ≠ [] := TL.numL_ne _
theorem numZ_len {z : Int} (h : 0 ≤ z ∧ z < 10000000000) : (numZ z).length ≤ 10 := TL.numL_len (by decide) (by
  have e : (10 : Nat) ^ 10 = 10000000000 := by decide
  rw [e]; omega)
/-- the codes of a line lie in a small range -/
def Low (l : List Nat) : Prop := ∀ c ∈ l, 32 ≤ c ∧ c < 123
theorem Low.ok {n : Nat} {l : List Nat} (h : Low l) : okE n (tS l) = true := okE_S fun c hc => by have := h c hc; omega
theorem Low.no {l : List Nat} (h : Low l) : 10 ∉ l := fun hm => by have := h 10 hm; omega
theorem numZ_low {z : Int} : Low (numZ z) := fun c hc => by have := numZ_range c hc; omega
theorem join_mem {x c : Nat} : ∀ {ps : List (List Nat)}, c ∈ TL.joinL [x] ps → c = x ∨ ∃ p ∈ ps, c ∈ p
  | [], h => by cases h
  | [p], h => .inr ⟨p, List.mem_singleton.mpr rfl, h⟩
  | p :: q :: r, h => by
    have h : c ∈ p ++ ([x] ++ TL.joinL [x] (q :: r)) := h
    rcases List.mem_append.mp h with h | h
    · exact .inr ⟨p, List.mem_cons_self, h⟩
    · rcases List.mem_append.mp h with h | h
      · exact .inl (List.mem_singleton.mp h)
      · rcases join_mem h with e | ⟨p', h1, h2⟩
        · exact .inl e
        · exact .inr ⟨p', List.mem_cons_of_mem _ h1, h2⟩
theorem lineN_low {w : List Nat} {zs : List Int} (hw : Low w) : Low (lineN w zs) := fun c hc => by
  rcases join_mem hc with e | ⟨p, hp, h2⟩
  · omega
  · rcases List.mem_cons.mp hp with e | hp
    · rw [e] at h2
      exact hw c h2
    · obtain ⟨z, _, e⟩ := List.mem_map.mp hp
      rw [← e] at h2
      exact numZ_low c h2
theorem low_of {l : List Nat} (h : l.all (fun c => decide (32 ≤ c ∧ c < 123)) = true) : Low l := fun c hc => of_decide_eq_true (List.all_eq_true.mp h c hc)
theorem low_talk : Low wTalk := low_of (by decide)
theorem low_throws : Low wThrows := low_of (by decide)
theorem low_layer : Low wLayer := low_of (by decide)
theorem low_poly : Low wPoly := low_of (by decide)
theorem low_line : Low wLine := low_of (by decide)
theorem low_end : Low wEnd := low_of (by decide)
theorem joinL_len {x : Nat} {b : Nat} : ∀ {ps : List (List Nat)}, (∀ p ∈ ps, p.length ≤ b) → (TL.joinL [x] ps).length ≤ ps.length * (b + 1)
  | [], _ => Nat.zero_le _
  | [p], h => by
    have := h p (List.mem_singleton.mpr rfl)
    show p.length ≤ 1 * (b + 1)
    omega
  | p :: q :: r, h => by
    have h1 := h p List.mem_cons_self
    have h2 := joinL_len (x := x) (b := b) (ps := q :: r) fun p hp => h p (List.mem_cons_of_mem _ hp)
    show (p ++ ([x] ++ TL.joinL [x] (q :: r))).length ≤ ((q :: r).length + 1) * (b + 1)
    rw [List.length_append, List.length_append, List.length_singleton, Nat.add_mul]
    omega
theorem sum_le {b : Nat} : ∀ {ps : List (List Nat)}, (∀ p ∈ ps, p.length ≤ b) → (ps.map (·.length)).sum ≤ ps.length * b
  | [], _ => Nat.zero_le _
  | p :: r, h => by
    have h1 := h p List.mem_cons_self
    have h2 := sum_le fun q hq => h q (List.mem_cons_of_mem _ hq)
    rw [List.map_cons, List.sum_cons, List.length_cons, Nat.add_mul]
    omega
/-! ### the contracts -/
theorem numS {z : Int} (h : 0 ≤ z) : PySem.Str.ofString (toString z) = SX.S (numZ z) := by
  have e := SX.num_S z.toNat
  rw [show ((z.toNat : Nat) : Int) = z by omega] at e
  exact e
theorem log2_lt {z : Int} (h : 0 ≤ z ∧ z < 10000000000) : z.natAbs.log2 < 1920 := by
  have : z.natAbs < 10000000000 := by omega
  have h2 : z.natAbs.log2 ≤ 34 := by
    by_cases h0 : z.natAbs = 0
    · rw [h0]; decide
    · have : z.natAbs.log2 < 35 := (Nat.log2_lt h0).mpr (by omega)
      omega
  omega
theorem numL_head : ∀ n : Nat, 1 ≤ n → ∀ r, TL.numL n ≠ 48 :: r := fun n => by
  induction n using Nat.strongRecOn with
  | _ n ih =>
    intro h r e
    by_cases h10 : n < 10
    · rw [TL.numL_lt h10] at e
      injection e with e1 e2
      omega
    · rw [TL.numL_step (by omega)] at e
      cases q : TL.numL (n / 10) with
      | nil => exact TL.numL_ne _ q
      | cons c t =>
        rw [q] at e
        injection e with e1 e2
        exact ih (n / 10) (by omega) (by omega) t (by rw [q, e1])
theorem plD_intL (xs : List Int) : plD (.lst (xs.map D.int)) = true := plDs_of fun d hd => by
  obtain ⟨x, _, rfl⟩ := List.mem_map.mp hd
  rfl
theorem plD_ansT (a : List (List Int) × List Int) : plD (ansT a) = true := plDs_of fun d hd => by
  rcases List.mem_cons.mp hd with rfl | hd
  · exact plDs_of fun d hd => by
      obtain ⟨x, _, rfl⟩ := List.mem_map.mp hd
      exact plD_intL x
  · rw [List.mem_singleton.mp hd]
    exact plD_intL _
theorem plD_ansi (a : List (List Int) × List Int) (i : Int) : plD (.tup [ansT a, .int i]) = true := plDs_of fun d hd => by
  rcases List.mem_cons.mp hd with rfl | hd
  · exact plD_ansT a
  · rw [List.mem_singleton.mp hd]
    rfl
theorem plD_told (zs : List Int) (A : List (List (List Int) × List Int)) : plD (.tup [.lst (zs.map D.int), .lst (A.map ansT)]) = true := plDs_of fun d hd => by
  rcases List.mem_cons.mp hd with rfl | hd
  · exact plD_intL zs
  · rw [List.mem_singleton.mp hd]
    exact plDs_of fun d hd => by
      obtain ⟨x, _, rfl⟩ := List.mem_map.mp hd
      exact plD_ansT x
theorem cutRt {xs : List D} {k : Nat} (h : k ≤ xs.length) : cutD xs (some (k : Nat)) none = xs.drop k := by
  unfold cutD
  rw [HT.sIx_none, HT.sIx_nat, Nat.min_eq_left h, List.take_of_length_le (by rw [List.length_drop]; omega)]
theorem okE_two : okE 64 (.lst [.str (SX.S wEnd), .str (SX.S [])]) = true := okE_lst (n := 63) fun d hd => by
  rcases List.mem_cons.mp hd with rfl | hd
  · exact low_end.ok
  · rw [List.mem_singleton.mp hd]
    exact okE_S (l := []) fun c h => by cases h
/-! ### a text many times -/
/-! ### a part of a text -/
section
variable {X : Cx} {E : WX} {a b : Expr} {Wa Wb : DE} {pos : Pos}
/-! ### a constant of the module that is a tuple of texts -/
/-! ### a text in a tuple of texts -/
end
section
variable {X : Cx} {a dd : Addr} {oe : Obj} {pn : List (Addr × Obj)} {c : String} {o : Expr} {W : DE} {pos : Pos}
theorem je_isEV {B : String} {L : List (String × Bool)} {p p2 : Pos} (T : ErrS X.K (kcl X.K c)) (TL : KitV X.K B L) (hz : Zc (.ref (kcl X.K c)) (some dd) oe) (hf : ∃ vs, oe.data = .fields vs) (hgi : Gl X "isinstance") (hmi : X.mg "isinstance" = none)
    (hg : Gl X (PySem.Str.ofString B)) (hm : X.mg (PySem.Str.ofString B) = none) (hv : bootBuiltins (PySem.Str.ofString B) = some (.type B)) (ho : JE (X.suite a ((a, oe) :: pn)) EF o W)
    (hn : PySem.Str.ofString B ≠ "__name__" := by decide) (hdb : (PySem.Str.ofString B == ("__debug__" : Str)) = false := by decide)
    (he : starEach [o, .Name (PySem.Str.ofString B) p2] X.env = (false, eval o X.env) :: starEach [.Name (PySem.Str.ofString B) p2] X.env := by rfl)
    (he2 : starEach [.Name (PySem.Str.ofString B) p2] X.env = (false, eval (.Name (PySem.Str.ofString B) p2) X.env) :: starEach [] X.env := by rfl)
    (hpl : (backTo pos (starEach [.Name (PySem.Str.ofString B) p2] X.env)).any (·.1) = false := by rfl) :
    JE (X.suite a ((a, oe) :: pn)) EF (.Call (.Name "isinstance" p) [o, .Name (PySem.Str.ofString B) p2] [] pos) (dIsE a dd L B c W) :=
  PE.imp (pe_callB (call_isE2 T hz hf) hgi hmi bt_isinstance (pa_cons ho (pa_cons (pe_bltn (v := .ty B) (u := .type B) hg hm hv rfl hn hdb) pa_nil he2) he) (by decide) (by decide) he hpl) fun σ H Q ⟨w, ρ, m, Ψ, Φ, at_, vl, q⟩ => by
  refine ⟨w, ρ, m, Ψ, _, at_, fun x m1 w1 H1 v l1 h1 r1 q1 => ?_, q⟩
  cases x with
  | exc a' d' c' fs =>
    obtain ⟨rfl, rfl, b, hb, q1⟩ := q1
    obtain ⟨rfl, xs, hx, rf⟩ := r1
    exact ⟨_, .type B, b, xs, rfl, fun u h => h, h1.ext _ _ hx, TL c b hb, vl (.bl b) m1 w1 H1 _ l1 h1 rfl q1⟩
  | _ => exact False.elim q1
end
/-! ### a call of a def without arguments -/
/-! ### tokens -/
def digL : List Nat := [48, 49, 50, 51, 52, 53, 54, 55, 56, 57]
theorem dig_eq : PySem.Str.ofString "0123456789" = SX.S digL := by decide +kernel
def isD (c : Nat) : Bool := decide (48 ≤ c) && decide (c ≤ 57)
theorem small_dec {P : Nat → Bool} {l : List Nat} (hl : l.all (fun c => decide (c < 128)) = true) (h : (List.range 128).all (fun c => decide (decide (c ∈ l) = P c)) = true) (hp : ∀ c, 128 ≤ c → P c = false) (c : Nat) : decide (c ∈ l) = P c := by
  by_cases hc : c < 128
  · exact of_decide_eq_true (List.all_eq_true.mp h c (List.mem_range.mpr hc))
  · rw [hp c (by omega)]
    refine decide_eq_false fun hm => ?_
    have := of_decide_eq_true (List.all_eq_true.mp hl c hm)
    omega
theorem in_dig (c : Nat) : decide (c ∈ digL) = isD c := small_dec (by decide) (by decide +kernel) (fun c h => by
  unfold isD
  rw [decide_eq_false (p := c ≤ 57) (by omega), Bool.and_false]) c
open PySem L2 PyProof.Rows
/-! ### an exception out of a comprehension -/
section
variable {M : Model} {A : Around} {E : Value → Shared → Prop} {s : Shared} {Z : Obj → Prop} {base B B' : Heap} {env : PySem.Env} {outer l : List PySem.Env} {L e a : Addr}
/-- an exception with whatever hand on it is noted -/
theorem looks_anyZ {fl : Value} {Q : Unit → Shared → Prop} (hZ : HandSPX.Steady Z) (hfr : A.frames = some (env :: outer)) (hf : env.frame = some L) (hfl : base.StaysIn s.heap ∧ base.get? e = none ∧ s.heap.FunFrames base (env :: outer) ∧ HandSPX.TracedZ s.heap base e Z fl)
    (hQ : ∀ h', HandSPX.HeldZ base (env :: outer) e Z L h' → s.heap.UpToSlots h' → Q () { s with heap := h' }) : wpAny M A (noteFrame (.ref e) env) Q E s := by
  obtain ⟨hkb, hen, hl, oe, vs, T, oT, ts, he, hz, hd, h1, hnT, hTe, hT, hdT, h3⟩ := hfl
  unfold noteFrame
  simp only [hf]
  refine wpAny_bind (wpAny_field he hd h1 ?_)
  rw [if_pos (show (Value.ref T != Value.none) = true from by simp)]
  refine wpAny_bind (wpAny_field hT hdT h3 ?_)
  by_cases hfl : (fl == rawInt L) = true
  · rw [if_pos hfl]
    have e1 : fl = rawInt L := by simpa using hfl
    subst e1
    exact wpAny_pure (hQ s.heap ⟨hkb, hen, hl, oe, vs, T, oT, ts, he, hz, hd, h1, hnT, hTe, hT, hdT, h3⟩ (Heap.UpToSlots.refl _))
  rw [if_neg hfl]
  refine wpAny_bind (wpAny_setField hT hdT (Array.getElem?_eq_some_iff.mp h3).1 ?_)
  have other : ∀ b, b ≠ T → (s.heap.update T (Obj.mapFields (·.setIfInBounds 3 Value.none))).get? b = s.heap.get? b := fun b hb => Heap.get?_update_other _ _ (Ne.symm hb)
  have noRecord : ∀ b o, s.heap.get? b = some o → (∀ vs, o.data ≠ .fields vs) → b ≠ T := fun b o hb hnf q => by
    rw [q, hT] at hb; injection hb with hb; subst hb; exact hnf ts hdT
  refine HandSPX.wpAny_entryZ hZ hfr (hl.of_keeps fun b o hb hnf => ⟨o, (other b (noRecord b o hb hnf)).trans hb, rfl⟩) hf ((other e (Ne.symm hTe)).trans he)
    (fun b o hbo => (other b fun q => by rw [q, hnT] at hbo; cases hbo).trans (hkb b o hbo)) hen hd (Array.getElem?_eq_some_iff.mp h1).1 hz fun h' hN => ?_
  obtain ⟨x1, x2, x3, x4⟩ := hN
  exact hQ h' ⟨x1, hen, x2, x3⟩ fun b o hb hnf => x4 b o ((other b (noRecord b o hb hnf)).trans hb) hnf
/-- noted at its own frame -/
theorem sky_note {L' : Addr} {Q : Unit → Shared → Prop} (hZ : HandSPX.Steady Z) (hfr : A.frames = some (env :: outer)) (hf : env.frame = some L) (x : Sky B (env :: outer) e Z L' s.heap)
    (hQ : ∀ h', HandSPX.HeldZ B (env :: outer) e Z L h' → s.heap.UpToSlots h' → Q () { s with heap := h' }) : wpAny M A (noteFrame (.ref e) env) Q E s := by
  rcases x with ⟨hB, hn, hl, oe, vs, he, hz, hd, h1⟩ | fl | hh
  · exact HandSPX.look_newZ hZ hfr hl hf he hB hn hd h1 hz hQ
  · exact HandSPX.looks_onZ hZ hfr hf fl hQ
  · exact looks_anyZ hZ hfr hf hh hQ
theorem funFrames_sub {h : Heap} (hs : ∀ b o, B'.get? b = some o → B.get? b = some o) : ∀ {l : List PySem.Env}, h.FunFrames B l → h.FunFrames B' l
  | [], _ => trivial
  | _ :: _, ⟨hk, ⟨L, o, hf, hb, ho, hd⟩, hr⟩ => ⟨hk, ⟨L, o, hf, (by
      cases q : B'.get? L with
      | none => rfl
      | some o => rw [hs _ _ q] at hb; cases hb), ho, hd⟩, funFrames_sub hs hr⟩
theorem none_sub (hs : ∀ b o, B'.get? b = some o → B.get? b = some o) {b : Addr} (h : B.get? b = none) : B'.get? b = none := by
  cases q : B'.get? b with
  | none => rfl
  | some o => rw [hs _ _ q] at h; cases h
theorem tracedZ_sub {h : Heap} {fl : Value} (hs : ∀ b o, B'.get? b = some o → B.get? b = some o) (t : HandSPX.TracedZ h B e Z fl) : HandSPX.TracedZ h B' e Z fl := by
  obtain ⟨oe, vs, T, oT, ts, he, hz, hd, h1, hnT, hTe, hT, hdT, h3⟩ := t
  exact ⟨oe, vs, T, oT, ts, he, hz, hd, h1, none_sub hs hnT, hTe, hT, hdT, h3⟩
end
section
variable {X : Cx} {pins pins' : List (Addr × Obj)} {σ : L2.St} {H H0 : Hp} {s s' : Shared} {E Wb : WX}
/-- out of the block, into the air of the def -/
theorem xe_block {scope : Scope} {ce : PySem.Env} {fp : List Addr} {xb : Value → Shared → Prop} (hs : X.stack = X.env :: X.outer) (hf : X.env.frame = some X.env.locals) (tk : Takes X E) (I3 : Inv X pins σ H0 s)
    (f3 : ∀ b ∈ fp, FpOk X pins H0 b) (hcf : ce.frame = X.env.frame) (hcl : ce.locals = s.heap.objs.size) (hW : ∀ cls d σ' H', Wb cls d σ' H' → E cls d σ H') {u : Value}
    (x : XE ((X.blk s H0 scope ce fp).wish xb) Wb u s') : notedBy (model X.prog X.w) X.A ce (CompFails (model X.prog X.w) X.A X.xe ce) u s' := by
  obtain ⟨a, B, sI, pb, σ', H', cls, d, rfl, I, nb, up, sky, na, os, ag, w⟩ := x
  have hfr : X.A.frames = some (X.env :: X.outer) := by rw [I3.ok.frames, hs]
  have nC : H' s.heap.objs.size = none := by
    have z : H' ce.locals = none := I.free
    rw [hcl] at z
    exact z
  obtain ⟨m, hn, _⟩ := I.loc
  have hn : sI.heap.Ns ce.locals m := hn
  rw [hcl] at hn
  generalize hC : s.heap.objs.size = C at *
  have hsub : ∀ b o, (PySem.W.hideAll B [C]).get? b = some o → B.get? b = some o := fun b o e => PySem.W.of_hideAll _ e
  have B1C : (PySem.W.hideAll B [C]).get? C = none := PySem.W.hideAll_none _ (List.mem_singleton.mpr rfl)
  have sky : Sky B X.stack a (Zc cls d) ce.locals s'.heap := sky
  rw [hs] at sky
  have sky1 : Sky (PySem.W.hideAll B [C]) (X.env :: X.outer) a (Zc cls d) ce.locals s'.heap := by
    rcases sky with ⟨hB, hn, hl, r⟩ | ⟨hB, hn, hl, t⟩ | ⟨hB, hn, hl, t⟩
    · exact .inl ⟨fun b o e => hB b o (hsub b o e), none_sub hsub hn, funFrames_sub hsub hl, r⟩
    · exact .inr (.inl ⟨fun b o e => hB b o (hsub b o e), none_sub hsub hn, funFrames_sub hsub hl, tracedZ_sub hsub t⟩)
    · exact .inr (.inr ⟨fun b o e => hB b o (hsub b o e), none_sub hsub hn, funFrames_sub hsub hl, tracedZ_sub hsub t⟩)
  show wpAny _ _ (noteFrame (.ref a) ce) _ _ s'
  rw [noteFrame_env _ hcf]
  refine sky_note Zc.steady hfr hf sky1 fun h1 hh up1 => ?_
  have hn1 : h1.Ns C m := (up.trans up1).ns hn
  refine ⟨m, by rw [hcl]; exact hn1, fun h2 m2 hn2 hs2 => ?_⟩
  rw [hcl] at hn2 hs2
  have hs2 : Heap.SameBut C h1 h2 := hs2
  obtain ⟨k1, k2, k3, oe, vs, T, oT, ts, he, hz, hd, h1v, hnT, hTe, hT, hdT, h3⟩ := hh
  obtain ⟨oC, esC, epC, hoC, hdC, _⟩ := id hn1
  have aC : a ≠ C := fun z => by
    rw [z, hoC] at he; injection he with he; subst he
    rw [hdC] at hd; cases hd
  have tC : T ≠ C := fun z => by
    rw [z, hoC] at hT; injection hT with hT; subst hT
    rw [hdC] at hdT; cases hdT
  have he2 := (hs2.2 a aC).trans he
  have hT2 := (hs2.2 T tC).trans hT
  have hh2 : HandSPX.HeldZ (PySem.W.hideAll B [C]) (X.env :: X.outer) a (Zc cls d) X.env.locals h2 :=
    ⟨fun b o e => (hs2.2 b fun z => by rw [z, B1C] at e; cases e).trans (k1 b o e), k2, Heap.FunFrames.sameBut hs2 hn2 k3, oe, vs, T, oT, ts, he2, hz, hd, h1v, hnT, hTe, hT2, hdT, h3⟩
  unfold PySem.passOn
  refine wpAny_bind (wpAny_field he2 hd h1v ?_)
  rw [if_neg (show ¬ ((Value.ref T == Value.none) = true) from by simp), hcf, hf]
  refine wpAny_bind (HandSPX.setFlight_onZ (s := { s' with heap := h2 }) hh2 fun h3 hh3 up3 => ?_)
  refine wpAny_throw ?_
  refine tk _ _ ?_
  refine ⟨a, PySem.W.hideAll B [C], { sI with heap := PySem.W.hideAll sI.heap [C] }, pins, σ, H', cls, d, rfl, ?_, fun b o e hb => ?_, fun b o e hnf => ?_, .inr (.inr ?_), na, os, ag, hW cls d σ' H' w⟩
  · have ib : Un (frs X.stack) fp H0 H' s.heap sI.heap := I.base
    have nl : ∀ b o, s.heap.get? b = some o → b ∉ [C] := fun b o e z => by
      have := Heap.lt_size e
      rw [List.mem_singleton.mp z, hC] at this
      exact absurd this (Nat.lt_irrefl _)
    refine I3.call' (ch := fp) I.os ⟨fun b o e n h1 h2 => PySem.W.hideAll_get _ (ib.keep b o e n h1 h2) (nl b o e), fun b o e n h1 h2 => ?_, ib.free, fun b o e h1 => ?_, ib.tups, ib.frzs, ib.tbls⟩ (fun b ob e => (I.hok b ob e).stay (fun c u hc q => PySem.W.hideAll_get _ q fun z => ?_) (fun _ q => q) fun _ _ q => q) I.bare
      fun b hb => ⟨(f3 b hb).2.2.2.1, (f3 b hb).2.1, (f3 b hb).2.2.2.2.1, (f3 b hb).2.2.2.2.2⟩
    · obtain ⟨sl, q⟩ := ib.slot b o e n h1 h2
      exact ⟨sl, PySem.W.hideAll_get _ q (nl b o e)⟩
    · obtain ⟨o', q⟩ := ib.there b o e h1
      exact ⟨o', PySem.W.hideAll_get _ q (nl b o e)⟩
    · have z := List.mem_singleton.mp z
      subst z
      rcases hc with hc | hc
      · rw [← hc, nC] at e; cases e
      · rw [nC] at hc; cases hc
  · have nz : b ∉ [C] := fun z => by
      rw [PySem.W.hideAll_none _ z] at e; cases e
    exact PySem.W.hideAll_get _ (nb b o (PySem.W.of_hideAll _ e) hb) nz
  · have nz : b ≠ C := fun z => by
      rw [PySem.W.hideAll_none _ (List.mem_singleton.mpr z)] at e; cases e
    obtain ⟨sl, q⟩ := (up.trans up1) b o (PySem.W.of_hideAll _ e) hnf
    obtain ⟨sl2, q2⟩ := up3 b { o with slots := sl } ((hs2.2 b nz).trans q) hnf
    exact ⟨sl2, q2⟩
  · rw [hs]
    exact hh3
end
section
variable {X : Cx} {E : WX}
/-- [elt for target in iter if ..] whose parts may raise: te's own wish of exceptions is te' W for any W -/
theorem pe_lcE {elt tg iter : Expr} {ifs : List Expr} {scope : Scope} {own : List (Str × Nat)} {pos : Pos} {wi : TI} {g : TG} {tt : TT} {te : WX → TE} (hs : X.stack = X.env :: X.outer) (hf : X.env.frame = some X.env.locals) (tk : Takes X E)
    (hc : X.calm = true) (hN : X.N.Nodup) (hi : PI X tg iter wi) (ok : BlkOk X.N X.env.scope scope own)
    (hg : ∀ (s : Shared) (H : Hp) (C : Addr) (cl : List (Str × Addr)) (fp : List Addr) (xb : Value → Shared → Prop), PG ((X.blk s H scope (compEnvC scope cl C X.env) fp).wish xb) tg g)
    (ht : ∀ (s : Shared) (H : Hp) (C : Addr) (cl : List (Str × Addr)) (fp : List Addr) (xb : Value → Shared → Prop), PTs ((X.blk s H scope (compEnvC scope cl C X.env) fp).wish xb) ifs tt)
    (he : ∀ (s : Shared) (H : Hp) (C : Addr) (cl : List (Str × Addr)) (fp : List Addr) (xb : Value → Shared → Prop) (Wb : WX), Takes ((X.blk s H scope (compEnvC scope cl C X.env) fp).wish xb) Wb → PE ((X.blk s H scope (compEnvC scope cl C X.env) fp).wish xb) elt (te Wb))
    (hs' : ∀ x, foldedSetIterable iter X.env x = pure x := by intro _; rfl) :
    PE X (.ListComp elt [⟨tg, iter, ifs, 0⟩] scope pos) (fun σ H Q => tLc wi g tt (te fun cls d _ H' => E cls d σ H') (own.map (·.2)) σ H Q) := by
  refine ⟨fun pins s σ H Q I h => ?_⟩
  rw [eval_ListComp]
  have hfree : ∀ y ∈ scope.names, y.2 = .free → ∃ c, X.env.cells.lookup y.1 = some c := fun y hy e => by
    rcases ok.free y hy e with k | k
    · exact I.ok.has _ (.inl k)
    · exact I.ok.has _ (.inr k)
  refine comprehension_at (use := none) rfl hs' (closure_ok hfree) ok.kind (fun y hy e => by rw [ok.uniq y hy, e])
    (thn (hi.run pins s σ H _ I h) fun xv s1 hx => thn hx fun itv s2 h2 => ?_)
  obtain ⟨it, fp, tn, J, H2, e, I2, T, st2, f2, q⟩ := h2
  subst e
  refine wpAny_newObj_type (newEnv_comp ?_) (by show 0 ≤ sizeLine; decide)
  generalize hD : s2.heap.objs.size = D
  have hDn : H2 D = none := I2.hok.fresh (Nat.le_of_eq hD)
  obtain ⟨W, ⟨m0, w0⟩, turn⟩ := q D hDn
  -- the new list
  generalize hs3 : ({ s2 with heap := s2.heap.push { cls := .type "list", data := .seq ([] : List Value).toArray } } : Shared) = s3
  have I3 : Inv X pins σ (upd H2 D (.lst [])) s3 := by
    rw [← hs3]
    refine I2.laid (t' := s2.toks) (fun b o e => Heap.get?_push_of_some _ e) (Nat.le_of_eq hD) ⟨Nat.zero_le _, [], 0, .nil, ?_⟩
    rw [← hD]
    exact Heap.get?_push_size _ rfl
  have h3 : s3.heap = s2.heap.push { cls := .type "list", data := .seq ([] : List Value).toArray } := by rw [← hs3]
  have sz : ∀ b ∈ fp, b < s2.heap.objs.size := fun b hb => by
    obtain ⟨o, e, _⟩ := T.obj _ _ st2 b hb
    exact Heap.lt_size e
  have f3 : ∀ b ∈ fp, FpOk X pins (upd H2 D (.lst [])) b ∧ b < s3.heap.objs.size := fun b hb => by
    have hlt := sz b hb
    refine ⟨⟨?_, (f2 b hb).2⟩, by rw [h3, Heap.size_push]; exact Nat.lt_succ_of_lt hlt⟩
    rw [upd_ne (by rw [← hD]; exact Nat.ne_of_lt hlt)]
    exact (f2 b hb).1
  have st3 : tn 0 s3.heap := T.keep _ _ _ st2 fun b _ o e => by rw [h3]; exact Heap.get?_push_of_some _ e
  have I4 := block_start I3 ok hN f3
  have pg := hg s3 (upd H2 D (.lst [])) s3.heap.objs.size (cellsFrom (s3.heap.objs.size + 1) scope.names (cloFrom X.env.cells scope.names [])) fp
  have pt := ht s3 (upd H2 D (.lst [])) s3.heap.objs.size (cellsFrom (s3.heap.objs.size + 1) scope.names (cloFrom X.env.cells scope.names [])) fp
  have pe := he s3 (upd H2 D (.lst [])) s3.heap.objs.size (cellsFrom (s3.heap.objs.size + 1) scope.names (cloFrom X.env.cells scope.names [])) fp
  show codeAny _ _ (.compStart (.ListComp elt [⟨tg, iter, ifs, 0⟩] scope pos) 0 (.ref it) (.ref D) (compEnvC scope (cellsFrom (s3.heap.objs.size + 1) scope.names (cloFrom X.env.cells scope.names [])) s3.heap.objs.size X.env)) (compEnds (model X.prog X.w) X.A X.xe none (EP X pins σ Q) (.ref D) (compEnvC scope (cellsFrom (s3.heap.objs.size + 1) scope.names (cloFrom X.env.cells scope.names [])) s3.heap.objs.size X.env)) { s3 with heap := pushCells (s3.heap.push { cls := .type "dict", data := .dict #[] }) scope.names }
  have nfp : ∀ b ∈ fp, (upd H2 D (.lst [])) b = none := fun b hb => (f3 b hb).1.1
  generalize hce : compEnvC scope (cellsFrom (s3.heap.objs.size + 1) scope.names (cloFrom X.env.cells scope.names [])) s3.heap.objs.size X.env = ce at I4 pg pt pe ⊢
  have cL : ce.locals = s3.heap.objs.size := by subst hce; rfl
  have cF : ce.frame = X.env.frame := by subst hce; rfl
  generalize hH3 : upd H2 D (.lst []) = H3 at I3 I4 pg pt pe w0 nfp f3
  generalize hs4 : ({ s3 with heap := pushCells (s3.heap.push { cls := .type "dict", data := .dict #[] }) scope.names } : Shared) = s4 at I4 ⊢
  have st4 : tn 0 s4.heap := T.keep _ _ _ st3 fun b _ o e => by rw [← hs4]; exact pushCells_keeps _ _ _ _ (Heap.get?_push_of_some _ e)
  -- what an exception of the block owes
  generalize hxb : (fun u s' => notedBy (model X.prog X.w) X.A ce (CompFails (model X.prog X.w) X.A X.xe ce) u s') = xb
  have pg := pg xb
  have pt := pt xb
  have tb : Takes ((X.blk s3 H3 scope ce fp).wish xb) (fun cls d _ H' => E cls d σ H') := fun u s' x => by
    have z := xe_block (Wb := fun cls d _ H' => E cls d σ H') hs hf tk I3 (fun b hb => (f3 b hb).1) cF cL (fun _ _ _ _ h => h) x
    rw [← hxb]
    exact z
  have pe := pe xb _ tb
  have toX : ∀ {pins' : List (Addr × Obj)} {σ' : L2.St} {H' : Hp} {s' : Shared}, Inv (X.blk s3 H3 scope ce fp) pins' σ' H' s' → Inv ((X.blk s3 H3 scope ce fp).wish xb) pins' σ' H' s' := fun {pins' σ' H' s'} I => ⟨I.ok.toTry _ _, I.os, I.bare, I.base, I.loc, I.cell, I.free, I.freeC, I.pin, I.hok, I.len⟩
  have ofX : ∀ {pins' : List (Addr × Obj)} {σ' : L2.St} {H' : Hp} {s' : Shared}, Inv ((X.blk s3 H3 scope ce fp).wish xb) pins' σ' H' s' → Inv (X.blk s3 H3 scope ce fp) pins' σ' H' s' := fun {pins' σ' H' s'} I => ⟨I4.ok, I.os, I.bare, I.base, I.loc, I.cell, I.free, I.freeC, I.pin, I.hok, I.len⟩
  have stat : ∀ {σ' : L2.St} {H' : Hp} {s' : Shared}, Inv (X.blk s3 H3 scope ce fp) [] σ' H' s' → (∀ b ∈ fp, H' b = none) → ∀ b ∈ fp, FpOk (X.blk s3 H3 scope ce fp) [] H' b := fun {σ' H' s'} I' hn b hb =>
    ⟨hn b hb, (I'.ok.exf b hb).1, I'.ok.exfs b hb, .inl hb, fun x c e => (I'.ok.exf b hb).2 x c e, fun p hp => absurd (show p ∈ ([] : List (Addr × Obj)) ++ [] from hp) (by simp)⟩
  have loop : codeAny (model X.prog X.w) X.A (.compLoop (.ListComp elt [⟨tg, iter, ifs, 0⟩] scope pos) 0 (.ref it) (.ref D) ce) (compEnds (model X.prog X.w) X.A X.xe none (EP X pins σ Q) (.ref D) ce) s4 := by
    refine compLoop_any (fun n s' => ∃ i H', Inv (X.blk s3 H3 scope ce fp) [] (L2.wipe σ (own.map (·.2))) H' s' ∧ tn i s'.heap ∧ (∀ b ∈ fp, H' b = none) ∧ W i n H') ?_ m0 ⟨0, H3, I4, st4, nfp, w0⟩
    rintro n s5 ⟨i, H5, I5, st5, n5, w5⟩
    have hxb' : (notedBy (model X.prog X.w) X.A ce fun e s' => compEnds (model X.prog X.w) X.A X.xe none (EP X pins σ Q) (.ref D) ce (.error e) s') = xb := hxb
    rcases turn i n H5 w5 with ⟨stop, qq⟩ | ⟨go, Nx, hNx, step⟩
    · have td := T.done (X.blk s3 H3 scope ce fp) rfl rfl rfl hc i [] s5 _ H5 (fun _ _ => False) I5 (stat I5 n5) st5 stop
      refine thnF td fun r s6 ⟨hr, I6⟩ => ?_
      subst hr
      -- back in the def's context
      have I7 : Inv X pins σ H5 s6 := I3.call' (ch := fp) I6.os I6.base I6.hok I6.bare fun b hb => ⟨(f3 b hb).1.2.2.2.1, (f3 b hb).1.2.1, (f3 b hb).1.2.2.2.2.1, (f3 b hb).1.2.2.2.2.2⟩
      have nC : H5 s3.heap.objs.size = none := by
        have z : H5 ce.locals = none := I6.free
        rw [cL] at z
        exact z
      obtain ⟨m, hn, _⟩ := I6.loc
      have hn : s6.heap.Ns ce.locals m := hn
      have fC : FpOk X pins H5 s3.heap.objs.size := I3.fpOk (Nat.le_refl _) nC
      refine ⟨m, hn, fun h'' sb => ?_⟩
      rw [cL] at sb
      obtain ⟨f0, f1, f2, f3, f4, f5⟩ := fC
      exact ⟨.ref D, H5, I7.turned (t' := s6.toks) (fun b o hb e => (sb.2 b hb).trans e) f0 f1 f3 f4 f5, rfl, qq⟩
    · have ti := T.item (X.blk s3 H3 scope ce fp) rfl rfl rfl hc i [] s5 _ H5 (fun _ _ => False) I5 (stat I5 n5) st5 go
      refine thnF ti fun r s6 ⟨u, hr, h6⟩ => ?_
      subst hr
      refine thnF h6 fun _ s7 ⟨x, H7, I7, r7, y7, st7, n7⟩ => ?_
      rw [hxb']
      have I7' := I7.pinned (stat I7 n7) (T.obj _ _ st7)
      refine thn (pg.run _ s7 _ H7 x u _ (toX I7') r7 (step x H7 y7)) fun _ s8 ⟨σ8, H8, I8, hw8, q8⟩ => ?_
      refine thn (pt.run _ s8 σ8 H8 _ I8 q8) fun b s9 ⟨H9, I9, q9⟩ => ?_
      -- the turn's end
      have fin : ∀ {s' : Shared} {H' : Hp}, Inv (X.blk s3 H3 scope ce fp) ([] ++ pinsAt fp s7.heap) σ8 H' s' → Nx H' → ∃ m, m < n ∧ ∃ i H', Inv (X.blk s3 H3 scope ce fp) [] (L2.wipe σ (own.map (·.2))) H' s' ∧ tn i s'.heap ∧ (∀ b ∈ fp, H' b = none) ∧ W i m H' := fun {s' H'} I' nx => by
        obtain ⟨m', hm, w'⟩ := hNx H' nx
        have pin' : ∀ b ∈ fp, ∀ o, s7.heap.get? b = some o → s'.heap.get? b = some o ∧ H' b = none := fun b hb o e =>
          let z := I'.pin (b, o) (List.mem_append_right _ (List.mem_append_right _ (mem_pinsAt hb e)))
          ⟨z.1, z.2.1⟩
        have hl : (L2.wipe σ (own.map (·.2))).length = σ8.length := by rw [← hw8, wipe_length]
        refine ⟨m', hm, i + 1, H', (I'.unpinned (pins := [])).weak hl (fun j v e => ?_), T.keep _ _ _ st7 fun b hb o e => (pin' b hb o e).1, fun b hb => ?_, w'⟩
        · rw [← hw8] at e
          exact (wipe_some e).1
        · obtain ⟨o, e, _⟩ := T.obj _ _ st7 b hb
          exact (pin' b hb o e).2
      cases b with
      | false =>
        simp only [Bool.false_eq_true, if_false] at q9 ⊢
        exact fin (ofX I9) q9
      | true =>
        simp only [if_true] at q9 ⊢
        refine thn (pe.run _ s9 σ8 H9 _ I9 q9) fun z s10 ⟨yv, H10, I10, r10, acc, hD10, hz10, nx⟩ => ?_
        exact app_ok (X := X.blk s3 H3 scope ce fp) (ofX I10) hD10 hz10 r10 fun s11 I11 => fin I11 nx
  exact codeAny_compStart_list loop (T.self X.A 0 _ _ _ st4 loop)
end
/-! ### at the level of the trees -/
def lcWE (g : DG) (tt : DT) (te : DE) (ρ : Env) (Φ : D → MM → Prop) (Ψ : XP) : List D → List D → MM → Prop
  | [], acc, m => Φ (.lst acc) m
  | d :: ds, acc, m => g d ρ (m.push (.lst acc)) fun ρ1 m1 => m1 = m.push (.lst acc) ∧ tt ρ1 (m.push (.lst acc)) (fun b m2 => m2 = m.push (.lst acc) ∧ if b = true then
      te ρ1 (m.push (.lst acc)) (fun y m3 => m3 = m.push (.lst acc) ∧ acc.length < LIM ∧ clD m.M.length y = true ∧ lcWE g tt te ρ Φ Ψ ds (acc ++ [y]) m) (fun C fs m3 => m3 = m.push (.lst acc) ∧ clF m.M.length fs = true ∧ Ψ C fs m)
    else lcWE g tt te ρ Φ Ψ ds acc m) XF
def dLcE (it : DI) (g : DG) (tt : DT) (te : DE) (vs : List Nat) : DE := fun ρ m Φ Ψ => it ρ m (fun ds m1 => lcWE g tt te (wipeD ρ vs) Φ Ψ ds [] m1) Ψ
theorem lcE_ok {K : PySem.W.Frag} {E : WX} {wi : DI} {g : DG} {tt : DT} {te : DE} {vs : List Nat} {σ : L2.St} {H : Hp} {Q : VK} (h : lift K E (dLcE wi g tt te vs) σ H Q) : tLc (liftI K E wi) (liftG K vs g) (liftT K EF tt) (lift K (fun cls d _ H' => E cls d σ H') te) vs σ H Q := by
  obtain ⟨w, ρ, m, Ψ, Φ, a, vl, h⟩ := h
  refine ⟨w, ρ, m, Ψ, _, a, fun ds m1 w1 H1 J l1 h1 wk q1 => ?_, h⟩
  intro D hD
  refine ⟨fun i k H => k = ds.length - i ∧ i ≤ ds.length ∧ ∃ w' acc, w1.le w' ∧ HRep K w' (m1.push (.lst acc)) H ∧ w'.th[m1.M.length]? = some D ∧ clAll m1.M.length acc = true ∧ lcWE g tt te (wipeD ρ vs) Φ Ψ (ds.drop i) acc m1, ⟨ds.length, by omega, Nat.zero_le _, w1.add D, [], Wd.le_add, h1.add hD ⟨[], upd_same, rfl⟩, ?_, rfl, q1⟩, ?_⟩
  · show (w1.th ++ [D])[m1.M.length]? = some D
    rw [← h1.len, List.getElem?_append_right (Nat.le_refl _)]; simp
  rintro i k H2 ⟨rfl, hi, w2, acc, l2, h2, hD2, hcl, q2⟩
  by_cases hlt : i < ds.length
  · have ed : ds[i]? = some ds[i] := List.getElem?_eq_getElem hlt
    have dr : ds.drop i = ds[i] :: ds.drop (i + 1) := List.drop_eq_getElem_cons hlt
    rw [dr] at q2
    refine .inr ⟨wk.go w2 _ H2 i _ l2 h2 ed, fun H' => ∃ w' acc, w1.le w' ∧ HRep K w' (m1.push (.lst acc)) H' ∧ w'.th[m1.M.length]? = some D ∧ clAll m1.M.length acc = true ∧ lcWE g tt te (wipeD ρ vs) Φ Ψ (ds.drop (i + 1)) acc m1, fun H' z => ⟨ds.length - (i + 1), by omega, rfl, hlt, z⟩, fun x H3 y => ?_⟩
    obtain ⟨w3, l3, h3, r3⟩ := wk.yld w2 _ H2 i _ x H3 l2 h2 ed y
    have s3 : Slots K w3 (L2.wipe σ vs) (wipeD ρ vs) := ((a.s.mono l1).mono (l2.trans l3)).wipes vs
    refine ⟨w3, wipeD ρ vs, _, ds[i], _, h3, s3, r3, fun ρ' m' w' H' σ' l h' s' e q => ⟨e.trans wipe_wipe, ?_⟩, q2⟩
    obtain ⟨rfl, q⟩ := q
    refine ⟨w', ρ', _, XF, _, ⟨h', s', xlift_F⟩, fun b m4 w4 H4 l4 h4 q4 => ?_, q⟩
    obtain ⟨rfl, q4⟩ := q4
    have l24 : w2.le w4 := l3.trans (l.trans l4)
    cases b with
    | true =>
      rw [if_pos rfl] at q4
      show (if true = true then _ else _)
      rw [if_pos rfl]
      have xl : XLift K w4 (fun cls d _ H' => E cls d σ H') σ' (fun C fs m3 => m3 = m1.push (.lst acc) ∧ clF m1.M.length fs = true ∧ Ψ C fs m1) := fun C fs m' w5 H5 d xs l5 h5 hF hfs q => by
        obtain ⟨rfl, hc, q⟩ := q
        have et : (m1.push (.lst acc)).M.take m1.M.length = m1.M := List.take_left' rfl
        have hc5 := h5.cut (n := m1.M.length) (fun o ho => by
          rw [et] at ho
          exact h1.cls o ho)
        have em : (m1.push (.lst acc)).cut m1.M.length = m1 := by
          show (⟨(m1.push (.lst acc)).M.take m1.M.length, m1.s⟩ : MM) = m1
          rw [et]
        rw [em] at hc5
        exact a.x C fs m1 (w5.cut m1.M.length) H5 d xs (l1.trans (Wd.le_cut (l2.trans (l24.trans l5)) (Nat.le_of_eq h1.len))) hc5 hF (RepF.cut _ _ hfs hc) q
      refine ⟨w4, ρ', _, _, _, ⟨h4, s'.mono l4, xl⟩, fun y m5 w5 H5 v l5 h5 r5 q5 => ?_, q4⟩
      obtain ⟨rfl, hz, hy, q5⟩ := q5
      have hD5 : w5.th[m1.M.length]? = some D := l5.th _ _ (l24.th _ _ hD2)
      have hM : (m1.push (.lst acc)).M[m1.M.length]? = some (.lst acc) := by
        show (m1.M ++ [MO.lst acc])[m1.M.length]? = _
        rw [List.getElem?_append_right (Nat.le_refl _)]; simp
      obtain ⟨xs, hx, r⟩ := h5.obj _ D _ hD5 hM
      refine ⟨xs, hx, lim_lt (by rw [r.length]; exact hz), w5, acc ++ [y], l2.trans (l24.trans l5), ?_, hD5, clAll_app hcl (by show (clD _ y && true) = true; rw [hy]; rfl), q5⟩
      have z := h5.wr (ho := .lst (xs ++ [v])) (o' := .lst (acc ++ [y])) hD5 hM (fun z => by cases z) ⟨_, upd_same, r.append ⟨v, [], rfl, r5, rfl⟩⟩
      have e : (m1.push (.lst acc)).M.set m1.M.length (.lst (acc ++ [y])) = (m1.push (.lst (acc ++ [y]))).M := by
        show (m1.M ++ [MO.lst acc]).set m1.M.length (.lst (acc ++ [y])) = m1.M ++ [MO.lst (acc ++ [y])]
        rw [List.set_append_right _ _ (Nat.le_refl _)]; simp
      rw [e] at z
      exact z
    | false =>
      rw [if_neg Bool.false_ne_true] at q4
      show (if false = true then _ else _)
      rw [if_neg Bool.false_ne_true]
      exact ⟨w4, acc, l2.trans l24, h4, l24.th _ _ hD2, hcl, q4⟩
  · have e : i = ds.length := by omega
    subst e
    rw [List.drop_length] at q2
    refine .inl ⟨wk.stop w2 _ H2 l2 h2, ?_⟩
    have hM : (m1.push (.lst acc)).M[m1.M.length]? = some (.lst acc) := by
      show (m1.M ++ [MO.lst acc])[m1.M.length]? = _
      rw [List.getElem?_append_right (Nat.le_refl _)]; simp
    obtain ⟨xs, fD, hx, r, hf⟩ := h2.frz hD2 hM
    have et : ((m1.push (.lst acc)).M.set m1.M.length .dead).take m1.M.length = m1.M := by
      show ((m1.M ++ [MO.lst acc]).set m1.M.length .dead).take m1.M.length = m1.M
      rw [List.set_append_right _ _ (Nat.le_refl _), List.take_left']
      rfl
    have hc := hf.cut (n := m1.M.length) (fun o ho => by
      have ho : o ∈ ((m1.push (.lst acc)).M.set m1.M.length .dead).take m1.M.length := ho
      rw [et] at ho
      exact h1.cls o ho)
    have em : (MM.cut ⟨(m1.push (.lst acc)).M.set m1.M.length .dead, (m1.push (.lst acc)).s⟩ m1.M.length) = m1 := by
      show (⟨((m1.push (.lst acc)).M.set m1.M.length .dead).take m1.M.length, m1.s⟩ : MM) = m1
      rw [et]
    rw [em] at hc
    have lc : w1.le ((w2.put D (.lst xs)).cut m1.M.length) := Wd.le_cut (l2.trans (Wd.le_put fD)) (Nat.le_of_eq h1.len)
    refine vl (.lst acc) m1 _ H2 _ (l1.trans lc) hc ?_ q2
    exact ⟨D, xs, rfl, upd_same, RepAll.cut _ _ (RepAll.mono (Wd.le_put fD) _ _ r) hcl⟩
section
variable {X : Cx} {E : WX}
theorem je_lcE {elt tg iter : Expr} {ifs : List Expr} {scope : Scope} {own : List (Str × Nat)} {pos : Pos} {wi : DI} {g : DG} {tt : DT} {te : DE} (tk : Takes X E) (hc : X.calm = true) (hN : X.N.Nodup) (hi : JI X E tg iter wi) (ok : BlkOk X.N X.env.scope scope own)
    (hg : ∀ (s : Shared) (H : Hp) (C : Addr) (cl : List (Str × Addr)) (fp : List Addr) (xb : Value → Shared → Prop), PG ((X.blk s H scope (compEnvC scope cl C X.env) fp).wish xb) tg (liftG X.K (own.map (·.2)) g))
    (ht : ∀ (s : Shared) (H : Hp) (C : Addr) (cl : List (Str × Addr)) (fp : List Addr) (xb : Value → Shared → Prop), PTs ((X.blk s H scope (compEnvC scope cl C X.env) fp).wish xb) ifs (liftT X.K EF tt))
    (he : ∀ (s : Shared) (H : Hp) (C : Addr) (cl : List (Str × Addr)) (fp : List Addr) (xb : Value → Shared → Prop) (Wb : WX), Takes ((X.blk s H scope (compEnvC scope cl C X.env) fp).wish xb) Wb → JE ((X.blk s H scope (compEnvC scope cl C X.env) fp).wish xb) Wb elt te)
    (hs : X.stack = X.env :: X.outer := by rfl) (hf : X.env.frame = some X.env.locals := by rfl) (hs' : ∀ x, foldedSetIterable iter X.env x = pure x := by intro _; rfl) :
    JE X E (.ListComp elt [⟨tg, iter, ifs, 0⟩] scope pos) (dLcE wi g tt te (own.map (·.2))) := PE.imp (pe_lcE (te := fun Wb => lift X.K Wb te) hs hf tk hc hN hi ok hg ht he hs') fun _ _ _ h => lcE_ok h
end
/-- every item goes well, or none -/
def mapQ {α β : Type} (f : α → Option β) : List α → Option (List β)
  | [] => some []
  | x :: r => match f x with
    | none => none
    | some y => (mapQ f r).map (y :: ·)
theorem lcWE_fn {α β : Type} {inj : α → D} {out : β → D} {g : DG} {te : DE} {ρ : Env} {Φ : D → MM → Prop} {Ψ : XP} (f : α → Option β) (C : String) (fs : List (String × D)) (m : MM) (xs : List α)
    (hg : ∀ x ∈ xs, ∀ (m' : MM) (Θ : D → MM → Prop) (Υ : XP), m'.s = m.s → (∀ y, f x = some y → Θ (out y) m') → (f x = none → Υ C fs m') → g (inj x) ρ m' (fun ρ1 m1 => m1 = m' ∧ te ρ1 m' Θ Υ)) (hc : ∀ y, clD m.M.length (out y) = true) (hl : xs.length ≤ LIM)
    (h : ∀ ys, mapQ f xs = some ys → Φ (.lst (ys.map out)) m) (hx : mapQ f xs = none → clF m.M.length fs = true ∧ Ψ C fs m) : lcWE g dYes te ρ Φ Ψ (xs.map inj) [] m := by
  have key : ∀ (ys : List α), (∀ x ∈ ys, x ∈ xs) → ∀ (acc : List D), acc.length + ys.length ≤ LIM → (∀ zs, mapQ f ys = some zs → Φ (.lst (acc ++ zs.map out)) m) → (mapQ f ys = none → clF m.M.length fs = true ∧ Ψ C fs m) → lcWE g dYes te ρ Φ Ψ (ys.map inj) acc m := by
    intro ys
    induction ys with
    | nil =>
      intro _ acc _ h _
      have z := h [] rfl
      rw [List.map_nil, List.append_nil] at z
      exact z
    | cons x ys ih =>
      intro hm acc hl h hn
      rw [List.length_cons] at hl
      have z := hg x (hm x List.mem_cons_self) (m.push (.lst acc)) (fun y m3 => m3 = m.push (.lst acc) ∧ acc.length < LIM ∧ clD m.M.length y = true ∧ lcWE g dYes te ρ Φ Ψ (ys.map inj) (acc ++ [y]) m) (fun C fs m3 => m3 = m.push (.lst acc) ∧ clF m.M.length fs = true ∧ Ψ C fs m) rfl
        (fun y hy => ⟨rfl, by omega, hc _, ih (fun y hy => hm y (List.mem_cons_of_mem _ hy)) (acc ++ [out y]) (by rw [List.length_append, List.length_singleton]; omega) (fun zs hz => by
          have q := h (y :: zs) (by
            show (match f x with
              | none => none
              | some y => (mapQ f ys).map (y :: ·)) = _
            rw [hy, hz]; rfl)
          rw [List.map_cons] at q
          rw [List.append_assoc]
          exact q) (fun hz => hn (by
            show (match f x with
              | none => none
              | some y => (mapQ f ys).map (y :: ·)) = _
            rw [hy, hz]; rfl))⟩)
        (fun hf => ⟨rfl, hn (by
          show (match f x with
            | none => none
            | some y => (mapQ f ys).map (y :: ·)) = _
          rw [hf])⟩)
      have key : (fun (ρ1 : Env) (m1 : MM) => m1 = m.push (.lst acc) ∧ te ρ1 (m.push (.lst acc)) (fun y m3 => m3 = m.push (.lst acc) ∧ acc.length < LIM ∧ clD m.M.length y = true ∧ lcWE g dYes te ρ Φ Ψ (ys.map inj) (acc ++ [y]) m) (fun C fs m3 => m3 = m.push (.lst acc) ∧ clF m.M.length fs = true ∧ Ψ C fs m))
          = (fun ρ1 m1 => m1 = m.push (.lst acc) ∧ dYes ρ1 (m.push (.lst acc)) (fun b m2 => m2 = m.push (.lst acc) ∧ if b = true then te ρ1 (m.push (.lst acc)) (fun y m3 => m3 = m.push (.lst acc) ∧ acc.length < LIM ∧ clD m.M.length y = true ∧ lcWE g dYes te ρ Φ Ψ (ys.map inj) (acc ++ [y]) m) (fun C fs m3 => m3 = m.push (.lst acc) ∧ clF m.M.length fs = true ∧ Ψ C fs m)
            else lcWE g dYes te ρ Φ Ψ (ys.map inj) acc m) XF) := by
        funext ρ1 m1
        unfold dYes
        simp
      rw [key] at z
      exact z
  exact key xs (fun x h => h) [] (by rw [List.length_nil]; omega) (fun zs hz => by rw [List.nil_append]; exact h zs hz) hx



/-! ### texts that may be no conversations -/
def okW (w : List Nat) : Bool := decide (w ≠ []) && decide (w.length ≤ 10) && w.all isD && !(decide (w.length > 1) && decide (w.headD 0 = 48))
def numQ (w : List Nat) : Option Int := if okW w = true then some ((NumText.digitsVal w : Nat) : Int) else none
def wdsN (x : Nat) (l : List Nat) : List (List Nat) := TL.spl [x] 0 [] l
def headW (l : List Nat) : List Nat := (wdsN 32 l).headD []
def lineQ (w l : List Nat) : Option (List Int) := if headW l = w then mapQ numQ ((wdsN 32 l).drop 1) else none
/-- a layer's lines: the line's number where they do not fit, or the answers and the line behind -/
def layQ : List (List Nat) → Nat → List (List Int) → Sum Nat ((List (List Int) × List Int) × Nat)
  | [], k, _ => .inl (k + 1)
  | l :: r, k, P => if headW l = wPoly then match lineQ wPoly l with
      | none => .inl (k + 1)
      | some zs => layQ r (k + 1) (P ++ [zs])
    else match lineQ wLine l with
      | none => .inl (k + 1)
      | some zs => .inr ((P, zs), k + 1)
def lastQ (L : List (List Nat)) (k : Nat) : Nat := if L[k]? = some wEnd then if L[k + 1]? = some [] then k + 2 else k + 1 else k
/-- from a line on -/
def bodyQ (L : List (List Nat)) : Nat → Nat → List (List (List Int) × List Int) → Sum Nat (List (List (List Int) × List Int))
  | 0, k, _ => .inl (k + 1)
  | n + 1, k, A => if L[k]? = some wLayer then match layQ (L.drop (k + 1)) (k + 1) [] with
      | .inl e => .inl e
      | .inr (a, j) => bodyQ L n j (A ++ [a])
    else if L.drop k = [wEnd, []] then .inr A else .inl (lastQ L k + 1)
def talkQ (L : List (List Nat)) : Sum Nat (List Int × List (List (List Int) × List Int)) :=
  if L.length > 20000 then .inl 20001 else if L[0]? ≠ some wTalk then .inl 1 else match L[1]? with
    | none => .inl 2
    | some l => match lineQ wThrows l with
      | none => .inl 2
      | some zs => match bodyQ L (L.length + 1) 2 [] with
        | .inl e => .inl e
        | .inr A => .inr (zs, A)
/-- a text of moderate size -/
structure Ln (l : List Nat) : Prop where
  cd : ∀ c ∈ l, c < 1114112
  len : l.length ≤ 1000000
theorem spl_bd {x : Nat} : ∀ (l acc : List Nat), (∀ p ∈ TL.spl [x] 0 acc l, p.length ≤ acc.length + l.length ∧ ∀ c ∈ p, c ∈ acc ∨ c ∈ l) ∧ (TL.spl [x] 0 acc l).length ≤ l.length + 1 ∧ TL.spl [x] 0 acc l ≠ []
  | [], acc => ⟨fun p hp => by
      have hp := List.mem_singleton.mp (show p ∈ [acc] from hp)
      subst hp
      exact ⟨by simp, fun c hc => .inl hc⟩, Nat.le_refl _, by simp [TL.spl]⟩
  | c :: r, acc => by
    have e : TL.spl [x] 0 acc (c :: r) = if TL.pre [x] (c :: r) = true then acc :: TL.spl [x] 0 [] r else TL.spl [x] 0 (acc ++ [c]) r := rfl
    rw [e]
    split
    · obtain ⟨h1, h2, h3⟩ := spl_bd (x := x) r []
      refine ⟨fun p hp => ?_, by rw [List.length_cons, List.length_cons]; omega, by simp⟩
      rcases List.mem_cons.mp hp with rfl | hp
      · exact ⟨by omega, fun c hc => .inl hc⟩
      · obtain ⟨a1, a2⟩ := h1 p hp
        refine ⟨by rw [List.length_nil] at a1; rw [List.length_cons]; omega, fun d hd => ?_⟩
        rcases a2 d hd with z | z
        · cases z
        · exact .inr (List.mem_cons_of_mem _ z)
    · obtain ⟨h1, h2, h3⟩ := spl_bd (x := x) r (acc ++ [c])
      refine ⟨fun p hp => ?_, by rw [List.length_cons]; omega, h3⟩
      obtain ⟨a1, a2⟩ := h1 p hp
      refine ⟨by rw [List.length_append, List.length_singleton] at a1; rw [List.length_cons]; omega, fun d hd => ?_⟩
      rcases a2 d hd with z | z
      · rcases List.mem_append.mp z with z | z
        · exact .inl z
        · rw [List.mem_singleton.mp z]
          exact .inr List.mem_cons_self
      · exact .inr (List.mem_cons_of_mem _ z)
theorem wdsN_ln {x : Nat} {l p : List Nat} (h : Ln l) (hp : p ∈ wdsN x l) : Ln p := by
  obtain ⟨a1, a2⟩ := (spl_bd (x := x) l []).1 p hp
  refine ⟨fun c hc => ?_, by have := h.len; rw [List.length_nil] at a1; omega⟩
  rcases a2 c hc with z | z
  · cases z
  · exact h.cd c z
theorem wdsN_len {x : Nat} {l : List Nat} : (wdsN x l).length ≤ l.length + 1 := (spl_bd (x := x) l []).2.1
theorem wdsN_ne {x : Nat} {l : List Nat} : wdsN x l ≠ [] := (spl_bd (x := x) l []).2.2
theorem Ln.ok {n : Nat} {l : List Nat} (h : Ln l) : okE n (tS l) = true := okE_S h.cd
theorem Ln.L {l : List Nat} (h : Ln l) : (SX.S l).length ≤ LIM := by
  rw [SX.S_len]
  show _ ≤ 16777216
  have := h.len
  omega
theorem eqDs_S : ∀ (a b : List (List Nat)), eqD (.lst (a.map tS)) (.lst (b.map tS)) = decide (a = b)
  | [], [] => rfl
  | [], _ :: _ => rfl
  | _ :: _, [] => rfl
  | x :: a, y :: b => by
    have ih := eqDs_S a b
    show (eqD (tS x) (tS y) && eqD (.lst (a.map tS)) (.lst (b.map tS))) = _
    rw [ih, eqD_S, ← Bool.decide_and]
    exact decide_eq_decide.mpr (by rw [List.cons.injEq])
def C_number_of__e : DC := fun ds m Φ Ψ => ∃ (w : List Nat) (a : Int), ds = [tS w, .int a] ∧ Ln w ∧ (∀ v, numQ w = some v → Φ (.int v) m) ∧ (numQ w = none → Ψ "TextError" [("line", .int (a + 1))] m)
def C_numbers_of__e : DC := fun ds m Φ Ψ => ∃ (l w : List Nat) (a : Int), ds = [tS l, tS w, .int a] ∧ Ln l ∧ Ln w ∧ (∀ zs, lineQ w l = some zs → Φ (.lst (zs.map D.int)) m) ∧ (lineQ w l = none → Ψ "TextError" [("line", .int (a + 1))] m)
def C_read_layer__e : DC := fun ds m Φ Ψ => ∃ (L : List (List Nat)) (k : Nat), ds = [.lst (L.map tS), .int (k : Nat)] ∧ (∀ l ∈ L, Ln l) ∧ L.length ≤ 20000 ∧ k ≤ L.length ∧ (∀ a (j : Nat), layQ (L.drop k) k [] = .inr (a, j) → Φ (.tup [ansT a, .int (j : Nat)]) m) ∧
  (∀ e : Nat, layQ (L.drop k) k [] = .inl e → Ψ "TextError" [("line", .int (e : Nat))] m)
def C_last_good__e : DC := fun ds m Φ _ => ∃ (L : List (List Nat)) (k : Nat), ds = [.lst (L.map tS), .int (k : Nat)] ∧ (∀ l ∈ L, Ln l) ∧ Φ (.int (lastQ L k : Nat)) m
def C_read_talk__e : DC := fun ds m Φ Ψ => ∃ z : List Nat, ds = [tS z] ∧ Ln z ∧ (∀ zs A, talkQ (wdsN 10 z) = .inr (zs, A) → Φ (.tup [.lst (zs.map D.int), .lst (A.map ansT)]) m) ∧ (∀ e : Nat, talkQ (wdsN 10 z) = .inl e → Ψ "TextError" [("line", .int (e : Nat))] m)
def W_number_of__e : DS := dSeq (dIf (dOr (dB (dOp oEq (dCB cLen (dCons (dVar 0) (dNil))) (dC (.int 0)))) (dOr (dB (dOp oGt (dCB cLen (dCons (dVar 0) (dNil))) (dC (.int 10)))) (dB (dCB cAny (dCons (dLc (diStr (dVar 0)) (dgName 2) (dYes) (dOp (oInS true) (dVar 2) ((dC (.str (PySem.Str.ofString "0123456789"))))) [2]) (dNil)))))) (dRaise "TextError" ["line"] (dCons (dOp oAdd (dVar 1) (dC (.int 1))) (dNil))) (dNext)) (dSeq (dIf (dAnd (dB (dOp oGt (dCB cLen (dCons (dVar 0) (dNil))) (dC (.int 1)))) (dB (dOp oEq (dOp oIx (dVar 0) (dC (.int 0))) (dC (.str (PySem.Str.ofString "0")))))) (dRaise "TextError" ["line"] (dCons (dOp oAdd (dVar 1) (dC (.int 1))) (dNil))) (dNext)) (dRet (dCB cIntS (dCons (dVar 0) (dNil)))))
def W_numbers_of__e : DS := dSeq (dSet 3 (dMethS oSplit (dVar 0) (dC (.str (PySem.Str.ofString " "))))) (dSeq (dIf (dB (dOp oNe (dOp oIx (dVar 3) (dC (.int 0))) (dVar 1))) (dRaise "TextError" ["line"] (dCons (dOp oAdd (dVar 2) (dC (.int 1))) (dNil))) (dNext)) (dRet (dLcE (diList (dSl (dVar 3) (dpS (dC (.int 1))) (dpN))) (dgName 4) (dYes) (dCall 2 C_number_of__e (dCons (dVar 4) (dCons (dVar 2) (dNil)))) [4])))
def W_read_layer__e : DS := dSeq (dSet 2 (dLstM (dNil))) (dSeq (dWhile (dAnd (dB (dOp oLt (dVar 1) (dCB cLen (dCons (dVar 0) (dNil))))) (dB (dOp oEq (dOp oIx (dMethS oSplit (dOp oIx (dVar 0) (dVar 1)) (dC (.str (PySem.Str.ofString " ")))) (dC (.int 0))) (dC (.str (PySem.Str.ofString "poly")))))) (dSeq (dDrop (dMethL oApp (dVar 2) (dCons (dCall 3 C_numbers_of__e (dCons (dOp oIx (dVar 0) (dVar 1)) (dCons (dC (.str (PySem.Str.ofString "poly"))) (dCons (dVar 1) (dNil))))) (dNil)))) (dAug 1 (oI0 fun i j => i + j) (dC (.int 1))))) (dSeq (dIf (dB (dOp oGe (dVar 1) (dCB cLen (dCons (dVar 0) (dNil))))) (dRaise "TextError" ["line"] (dCons (dOp oAdd (dVar 1) (dC (.int 1))) (dNil))) (dNext)) (dFrz 2 (dRet (dTup (dCons (dTup (dCons (dVar 2) (dCons (dCall 3 C_numbers_of__e (dCons (dOp oIx (dVar 0) (dVar 1)) (dCons (dC (.str (PySem.Str.ofString "line"))) (dCons (dVar 1) (dNil))))) (dNil)))) (dCons (dOp oAdd (dVar 1) (dC (.int 1))) (dNil))))))))
def W_last_good__e : DS := dSeq (dSet 2 (dLst (dCons (dC (.str (PySem.Str.ofString "end"))) (dCons (dC (.str (PySem.Str.ofString ""))) (dNil))))) (dSeq (dFor (diRng1 (dCons (dC (.int 2)) (dNil))) (dgName 3) (dIf (dOr (dB (dOp oGe (dOp oAdd (dVar 1) (dVar 3)) (dCB cLen (dCons (dVar 0) (dNil))))) (dB (dOp oNe (dOp oIx (dVar 0) (dOp oAdd (dVar 1) (dVar 3))) (dOp oIx (dVar 2) (dVar 3))))) (dRet (dOp oAdd (dVar 1) (dVar 3))) (dNext))) (dRet (dOp oAdd (dVar 1) (dC (.int 2)))))
def W_read_talk__e : DS := dSeq (dSet 1 (dMethS oSplit (dVar 0) (dC (.str (PySem.Str.ofString "\n"))))) (dSeq (dIf (dB (dOp oGt (dCB cLen (dCons (dVar 1) (dNil))) ((dC (.int 20000))))) (dRaise "TextError" ["line"] (dCons (dOp oAdd ((dC (.int 20000))) (dC (.int 1))) (dNil))) (dNext)) (dSeq (dIf (dB (dOp oNe (dOp oIx (dVar 1) (dC (.int 0))) (dC (.str (PySem.Str.ofString "talk"))))) (dRaise "TextError" ["line"] (dCons (dC (.int 1)) (dNil))) (dNext)) (dSeq (dIf (dB (dOp oLt (dCB cLen (dCons (dVar 1) (dNil))) (dC (.int 2)))) (dRaise "TextError" ["line"] (dCons (dC (.int 2)) (dNil))) (dNext)) (dSeq (dSet 2 (dCall 3 C_numbers_of__e (dCons (dOp oIx (dVar 1) (dC (.int 1))) (dCons (dC (.str (PySem.Str.ofString "throws"))) (dCons (dC (.int 1)) (dNil)))))) (dSeq (dSet 3 (dLstM (dNil))) (dSeq (dSet 4 (dC (.int 2))) (dSeq (dWhile (dAnd (dB (dOp oLt (dVar 4) (dCB cLen (dCons (dVar 1) (dNil))))) (dB (dOp oEq (dOp oIx (dVar 1) (dVar 4)) (dC (.str (PySem.Str.ofString "layer")))))) (dSeq (dAsg (dCall 2 C_read_layer__e (dCons (dVar 1) (dCons (dOp oAdd (dVar 4) (dC (.int 1))) (dNil)))) (dgTup [5, 4])) (dDrop (dMethL oApp (dVar 3) (dCons (dVar 5) (dNil)))))) (dSeq (dIf (dB (dOp oNe (dSl (dVar 1) (dpS (dVar 4)) (dpN)) (dLst (dCons (dC (.str (PySem.Str.ofString "end"))) (dCons (dC (.str (PySem.Str.ofString ""))) (dNil)))))) (dRaise "TextError" ["line"] (dCons (dOp oAdd (dCall 2 C_last_good__e (dCons (dVar 1) (dCons (dVar 4) (dNil)))) (dC (.int 1))) (dNil))) (dNext)) (dFrz 3 (dRet (dTup (dCons (dVar 2) (dCons (dVar 3) (dNil))))))))))))))
theorem rd_number_of__e : ∀ ds m Φ Ψ, ds.length = 2 → C_number_of__e ds m Φ Ψ → W_number_of__e { nx := fun _ m' => Φ .non m', rt := Φ } (fun _ => Ψ) (ds.map some ++ List.replicate (3 - ds.length) none) m := by
  intro ds m Φ Ψ _ h
  obtain ⟨w, a, rfl, hw, q1, q2⟩ := h
  change W_number_of__e _ _ [some (tS w), some (.int a), none] m
  have hL : (SX.S w).length = w.length := SX.S_len _
  have hLi := hw.L
  unfold W_number_of__e
  rw [dig_eq]
  refine dSeq_k fun k1 h1 => ?_
  unfold tS
  walk_at "dx"
  refine ⟨hLi, ?_⟩
  rw [hL]
  by_cases w0 : w.length = 0
  · rw [if_pos (by omega)]
    refine q2 ?_
    have : w = [] := List.length_eq_zero_iff.mp w0
    subst this
    rfl
  have wne : w ≠ [] := fun e => w0 (by rw [e]; rfl)
  rw [if_neg (by omega)]
  refine ⟨by rw [← hL]; exact hLi, ?_⟩
  by_cases w10 : w.length ≤ 10
  · rw [if_neg (by omega)]
    refine lcW_fn (inj := sgD) (out := D.bl) (fun c => !isD c) m w (fun c hc m' Θ h => ?_) (fun _ => by simp [clD]) (by show _ ≤ 16777216; omega) ?_
    · refine ⟨rfl, ?_⟩
      unfold dOp
      walk_at "dx"
      refine ⟨c, _, rfl, rfl, ?_⟩
      rw [show (SX.S digL).cps.toList = digL from rfl, in_dig]
      simpa using h
    walk_at "dx"
    refine ⟨_, bls_map _, ?_⟩
    by_cases wd : w.all isD = true
    · have : (w.map fun c => !isD c).any id = false := by
        rw [List.any_map]
        rw [List.any_eq_false]
        intro c hc
        have := List.all_eq_true.mp wd c hc
        simp [this]
      rw [this, if_neg (by decide)]
      subst h1
      refine dSeq_k fun k1 h1 => ?_
      walk_at "dx"
      refine ⟨hLi, ?_⟩
      rw [hL]
      have go : ¬ (w.length > 1 ∧ w.headD 0 = 48) → k1 [some (D.str (SX.S w)), some (D.int a), none] m := fun h48 => by
        subst h1
        walk_at "dx"
        have hq : numQ w = some ((NumText.digitsVal w : Nat) : Int) := by
          unfold numQ okW
          rw [decide_eq_true wne, decide_eq_true w10, wd]
          by_cases h1 : w.length > 1
          · rw [decide_eq_true h1, decide_eq_false (fun h => h48 ⟨h1, h⟩)]
            rfl
          · rw [decide_eq_false h1]
            rfl
        exact ⟨_, SX.int_S wd wne (by omega), by rw [hL]; omega, q1 _ hq⟩
      by_cases h1l : w.length > 1
      · rw [if_pos (by omega)]
        cases w with
        | nil => exact absurd rfl wne
        | cons c r =>
          refine ⟨by rw [← hL]; exact hLi, c, atI_cons0, okE_S (l := [c]) (fun x hx => hw.cd x (by rw [List.mem_singleton.mp hx]; exact List.mem_cons_self)), by rw [s_0]; exact okE_S (l := [48]) (fun x hx => by rw [List.mem_singleton.mp hx]; omega), ?_⟩
          rw [s_0, show eqD (.str { cps := #[c] }) (.str (SX.S [48])) = decide ([c] = [48]) from eqD_S]
          by_cases h48 : c = 48
          · rw [if_pos (decide_eq_true (by rw [h48]))]
            refine q2 ?_
            unfold numQ okW
            rw [decide_eq_true h1l, show (c :: r).headD 0 = c from rfl, decide_eq_true h48]
            simp
          · rw [if_neg (by rw [decide_eq_false (fun h => h48 (List.cons.inj h).1)]; decide)]
            exact go fun h => h48 h.2
      · rw [if_neg (by omega)]
        exact go fun h => h1l h.1
    · have : (w.map fun c => !isD c).any id = true := by
        rw [List.any_map]
        rw [List.any_eq_true]
        have wd : w.all isD = false := by simpa using wd
        obtain ⟨c, hc, hd⟩ := List.all_eq_false.mp wd
        exact ⟨c, hc, by simpa using hd⟩
      rw [this, if_pos rfl]
      refine q2 ?_
      unfold numQ okW
      have wd : w.all isD = false := by simpa using wd
      rw [wd]
      simp
  · rw [if_pos (by omega)]
    refine q2 ?_
    unfold numQ okW
    rw [decide_eq_false w10]
    simp
theorem rd_numbers_of__e : ∀ ds m Φ Ψ, ds.length = 3 → C_numbers_of__e ds m Φ Ψ → W_numbers_of__e { nx := fun _ m' => Φ .non m', rt := Φ } (fun _ => Ψ) (ds.map some ++ List.replicate (5 - ds.length) none) m := by
  intro ds m Φ Ψ _ h
  obtain ⟨l, w, a, rfl, hl, hw, q1, q2⟩ := h
  change W_numbers_of__e _ _ [some (tS l), some (tS w), some (.int a), none, none] m
  unfold W_numbers_of__e
  refine dSeq_k fun k1 h1 => ?_
  unfold tS
  walk_at "dx"
  refine ⟨by rw [s_sp]; decide, by rw [SX.S_len]; have := hl.len; show _ ≤ 16777216; omega, ?_⟩
  rw [s_sp, SX.split_S (by decide) (by decide), List.map_map]
  subst h1
  refine dSeq_k fun k1 h1 => ?_
  walk_at "dx"
  have hne := wdsN_ne (x := 32) (l := l)
  have hln : ∀ p ∈ wdsN 32 l, Ln p := fun p hp => wdsN_ln hl hp
  have hlen := wdsN_len (x := 32) (l := l)
  have hll := hl.len
  unfold lineQ headW at q1 q2
  rw [show TL.spl [32] 0 [] l = wdsN 32 l from rfl]
  generalize wdsN 32 l = ps at hne hln hlen q1 q2 ⊢
  cases ps with
  | nil => exact absurd rfl hne
  | cons p r =>
    rw [show (p :: r).headD [] = p from rfl, show (p :: r).drop 1 = r from rfl] at q1 q2
    refine ⟨_, atI_cons0, (hln p List.mem_cons_self).ok, hw.ok, ?_⟩
    rw [show eqD ((D.str ∘ SX.S) p) (.str (SX.S w)) = decide (p = w) from eqD_S]
    by_cases e : p = w
    · rw [if_neg (by rw [decide_eq_true e]; decide)]
      rw [if_pos e] at q1 q2
      subst h1
      unfold dLcE
      walk_at "dx"
      simp only [List.map_cons, cut_from1]
      rw [List.length_cons] at hlen
      refine lcWE_fn (inj := D.str ∘ SX.S) (out := D.int) numQ "TextError" [("line", .int (a + 1))] m r (fun x hx m' Θ Υ _ hy hn => ?_) (fun _ => by simp [clD]) (by show _ ≤ 16777216; omega) (fun ys hy => q1 ys hy) (fun hn => ⟨rfl, q2 hn⟩)
      refine ⟨rfl, ?_⟩
      walk_at "dx"
      exact ⟨x, a, rfl, hln x (List.mem_cons_of_mem _ hx), hy, hn⟩
    · rw [if_pos (by rw [decide_eq_false e])]
      rw [if_neg e] at q2
      exact q2 rfl
theorem rd_last_good__e : ∀ ds m Φ Ψ, ds.length = 2 → C_last_good__e ds m Φ Ψ → W_last_good__e { nx := fun _ m' => Φ .non m', rt := Φ } (fun _ => Ψ) (ds.map some ++ List.replicate (4 - ds.length) none) m := by
  intro ds m Φ Ψ _ h
  obtain ⟨L, k, rfl, hL, q⟩ := h
  change W_last_good__e _ _ [some (.lst (L.map tS)), some (.int (k : Nat)), none, none] m
  unfold W_last_good__e
  walk_at "stp"
  refine ⟨by decide, ?_⟩
  rw [s_end, s_no]
  subst h1
  refine dSeq_k fun k1 hk1 => ?_
  walk_at "dx"
  refine ⟨by decide, ?_⟩
  rw [show rngD 0 (Int.toNat 2) = [.int 0, .int 1] from rfl]
  unfold forW
  walk_at "dx"
  unfold forW
  walk_at "dx"
  have ln0 : Ln [] := ⟨by simp, by decide⟩
  have lnE : Ln wEnd := ⟨fun c hc => by have := low_end c hc; omega, by decide⟩
  unfold lastQ at q
  by_cases h0 : k < L.length
  · have g0 : L[k]? = some L[k] := List.getElem?_eq_getElem h0
    rw [if_neg (by omega)]
    refine ⟨_, atI_map (by omega) (by rw [Int.add_zero, Int.toNat_natCast]; exact g0), _, atI_cons0, (hL _ (List.getElem_mem h0)).ok, lnE.ok, ?_⟩
    rw [show eqD (tS L[k]) (.str (SX.S wEnd)) = decide (L[k] = wEnd) from eqD_S]
    by_cases e0 : L[k] = wEnd
    · rw [if_neg (by rw [decide_eq_true e0]; decide)]
      rw [if_pos (by rw [g0, e0])] at q
      by_cases h1 : k + 1 < L.length
      · have g1 : L[k + 1]? = some L[k + 1] := List.getElem?_eq_getElem h1
        rw [if_neg (by omega)]
        refine ⟨_, atI_map (by omega) (by rw [show ((k : Int) + 1).toNat = k + 1 by omega]; exact g1), .str (SX.S []), rfl, (hL _ (List.getElem_mem h1)).ok, ln0.ok, ?_⟩
        rw [show eqD (tS L[k + 1]) (.str (SX.S [])) = decide (L[k + 1] = []) from eqD_S]
        by_cases e1 : L[k + 1] = []
        · rw [if_neg (by rw [decide_eq_true e1]; decide)]
          rw [if_pos (by rw [g1, e1])] at q
          unfold forW
          dsimp only
          subst hk1
          walk_at "dx"
          exact q
        · rw [if_pos (by rw [decide_eq_false e1])]
          rw [if_neg (by rw [g1]; exact fun h => e1 (Option.some.inj h))] at q
          exact q
      · rw [if_pos (by omega)]
        rw [if_neg (by rw [List.getElem?_eq_none (by omega)]; simp)] at q
        exact q
    · rw [if_pos (by rw [decide_eq_false e0])]
      rw [if_neg (by rw [g0]; exact fun h => e0 (Option.some.inj h))] at q
      rw [Int.add_zero]
      exact q
  · rw [if_pos (by omega), Int.add_zero]
    rw [if_neg (by rw [List.getElem?_eq_none (by omega)]; simp)] at q
    exact q
theorem retX_push {m0 : MM} {Ψ : XP} {c : String} {fs : List (String × D)} {x : MO} (hc : clF m0.M.length fs = true) (q : Ψ c fs m0) : retX m0 Ψ c fs (m0.push x) := ⟨m0.M, [x], rfl, kept.rfl, hc, q⟩
theorem rd_read_layer__e : ∀ ds m Φ Ψ, ds.length = 2 → C_read_layer__e ds m Φ Ψ → W_read_layer__e { nx := fun _ m' => retQ m Φ .non m', rt := retQ m Φ } (fun _ => retX m Ψ) (ds.map some ++ List.replicate (3 - ds.length) none) m := by
  intro ds m Φ Ψ _ h
  obtain ⟨L, k, rfl, hL, hl, hk, q1, q2⟩ := h
  change W_read_layer__e _ _ [some (.lst (L.map tS)), some (.int (k : Nat)), none] m
  obtain ⟨R, hR⟩ : ∃ R, R = layQ (L.drop k) k [] := ⟨_, rfl⟩
  rw [← hR] at q1 q2
  unfold W_read_layer__e
  refine dSeq_k fun k1 h1 => ?_
  walk_at "dx"
  refine ⟨by decide, ?_⟩
  subst h1
  refine dSeq_k fun k1 h1 => ?_
  unfold dWhile
  refine ⟨fun n ρ m' => ∃ (i : Nat) (P : List (List Int)), n = L.length - i ∧ i ≤ L.length ∧ P.length ≤ i ∧ R = layQ (L.drop i) i P ∧ ρ = [some (.lst (L.map tS)), some (.int (i : Nat)), some (.hnd m.M.length)] ∧
    m' = m.push (.lst (P.map fun r => D.lst (r.map D.int))), ⟨_, k, [], rfl, hk, Nat.zero_le _, hR, rfl, rfl⟩, ?_⟩
  rintro n ρ m' ⟨i, P, rfl, hi, hP, eQ, rfl, rfl⟩
  walk_at "dx"
  have h0 : (0 : Int) ≤ ((i : Nat) : Int) := by omega
  by_cases hlt : i < L.length
  · rw [if_pos (by omega)]
    have hg : L[i]? = some L[i] := List.getElem?_eq_getElem hlt
    have hd : L.drop i = L[i] :: L.drop (i + 1) := List.drop_eq_getElem_cons hlt
    have hm : L[i] ∈ L := List.getElem_mem hlt
    generalize L[i] = l at hg hd hm
    have ln := hL l hm
    have llen := ln.len
    rw [hd] at eQ
    have eh : headW l = (wdsN 32 l).headD [] := rfl
    unfold layQ at eQ
    refine ⟨_, atI_map h0 (by rw [Int.toNat_natCast]; exact hg), ?_⟩
    dsimp only [tS]
    refine ⟨by rw [s_sp]; decide, by rw [SX.S_len]; show _ ≤ 16777216; omega, ?_⟩
    rw [s_sp, SX.split_S (by decide) (by decide), List.map_map, show TL.spl [32] 0 [] l = wdsN 32 l from rfl, s_poly]
    have hne := wdsN_ne (x := 32) (l := l)
    have hln : ∀ p ∈ wdsN 32 l, Ln p := fun p hp => wdsN_ln ln hp
    generalize wdsN 32 l = ps at hne hln eh ⊢
    cases ps with
    | nil => exact absurd rfl hne
    | cons p r =>
      have eh : headW l = p := eh
      rw [eh] at eQ
      refine ⟨_, atI_cons0, (hln p List.mem_cons_self).ok, low_poly.ok, ?_⟩
      rw [show eqD ((D.str ∘ SX.S) p) (.str (SX.S wPoly)) = decide (p = wPoly) from eqD_S]
      by_cases e : p = wPoly
      · rw [if_pos (decide_eq_true e)]
        rw [if_pos e] at eQ
        refine ⟨_, atI_map h0 (by rw [Int.toNat_natCast]; exact hg), l, wPoly, _, rfl, ln, ⟨fun c hc => by have := low_poly c hc; omega, by decide⟩, fun zs hz => ?_, fun hn => ?_⟩
        · rw [hz] at eQ
          walk_at "dx"
          refine ⟨by show _ < 16777216; omega, _, ?_, i + 1, P ++ [zs], rfl, hlt, by rw [List.length_append, List.length_singleton]; omega, eQ, rfl, ?_⟩
          · omega
          · simp
        · rw [hn] at eQ
          exact retX_push rfl (q2 (i + 1) eQ)
      · rw [if_neg (by rw [decide_eq_false e]; decide)]
        rw [if_neg e] at eQ
        subst h1
        refine dSeq_k fun k1 h1 => ?_
        walk_at "dx"
        rw [if_neg (by omega)]
        subst h1
        unfold dFrz
        walk_at "dx"
        refine ⟨_, atI_map h0 (by rw [Int.toNat_natCast]; exact hg), l, wLine, _, by rw [s_line]; rfl, ln, ⟨fun c hc => by have := low_line c hc; omega, by decide⟩, fun zs hz => ?_, fun hn => ?_⟩
        · rw [hz] at eQ
          walk_at "dx"
          refine ⟨by decide, by decide, retQ_dead (L := [.dead]) (clD_pl _ (plD_ansi (P, zs) _)) ?_⟩
          exact q1 _ _ eQ
        · rw [hn] at eQ
          exact ⟨m.M, [.dead], rfl, kept.rfl, rfl, q2 (i + 1) eQ⟩
  · rw [if_neg (by omega)]
    have hd : L.drop i = [] := List.drop_eq_nil_of_le (by omega)
    rw [hd] at eQ
    unfold layQ at eQ
    subst h1
    refine dSeq_k fun k1 h1 => ?_
    walk_at "dx"
    rw [if_pos (by omega)]
    exact retX_push rfl (q2 (i + 1) eQ)
theorem lay_len : ∀ (r : List (List Nat)) (k : Nat) (P : List (List Int)) (a : List (List Int) × List Int) (j : Nat), layQ r k P = .inr (a, j) → k < j ∧ j ≤ k + r.length
  | [], k, P, a, j, h => by
    unfold layQ at h
    cases h
  | l :: r, k, P, a, j, h => by
    unfold layQ at h
    split at h
    · split at h
      · cases h
      · obtain ⟨h1, h2⟩ := lay_len r (k + 1) _ a j h
        rw [List.length_cons]
        omega
    · split at h
      · cases h
      · injection h with h
        injection h with h1 h2
        rw [List.length_cons]
        omega
theorem rd_read_talk__e : ∀ ds m Φ Ψ, ds.length = 1 → C_read_talk__e ds m Φ Ψ → W_read_talk__e { nx := fun _ m' => retQ m Φ .non m', rt := retQ m Φ } (fun _ => retX m Ψ) (ds.map some ++ List.replicate (6 - ds.length) none) m := by
  intro ds m Φ Ψ _ h
  obtain ⟨z, rfl, hz, q1, q2⟩ := h
  change W_read_talk__e _ _ [some (tS z), none, none, none, none, none] m
  unfold W_read_talk__e
  refine dSeq_k fun k1 h1 => ?_
  dsimp only [tS]
  walk_at "dx"
  have hzl := hz.len
  refine ⟨by rw [s_nl]; decide, by rw [SX.S_len]; show _ ≤ 16777216; omega, ?_⟩
  rw [s_nl, SX.split_S (by decide) (by decide), List.map_map, show TL.spl [10] 0 [] z = wdsN 10 z from rfl]
  have hne := wdsN_ne (x := 10) (l := z)
  have hln : ∀ p ∈ wdsN 10 z, Ln p := fun p hp => wdsN_ln hz hp
  have hlen := wdsN_len (x := 10) (l := z)
  generalize wdsN 10 z = L at hne hln hlen q1 q2 ⊢
  change k1 [_, some (.lst (L.map tS)), none, none, none, none] m
  generalize D.str (SX.S z) = tx
  subst h1
  refine dSeq_k fun k1 h1 => ?_
  walk_at "dx"
  unfold talkQ at q1 q2
  by_cases hbig : L.length > 20000
  · rw [if_pos (by omega)]
    rw [if_pos hbig] at q2
    exact retX_id rfl (q2 _ rfl)
  rw [if_neg (by omega)]
  rw [if_neg hbig] at q1 q2
  subst h1
  refine dSeq_k fun k1 h1 => ?_
  walk_at "dx"
  have hpos : 0 < L.length := List.length_pos_iff.mpr hne
  have g0 : L[0]? = some L[0] := List.getElem?_eq_getElem hpos
  refine ⟨_, atI_map (by decide) g0, (hln _ (List.getElem_mem hpos)).ok, by rw [s_talk]; exact low_talk.ok, ?_⟩
  rw [s_talk, show eqD (tS L[0]) (.str (SX.S wTalk)) = decide (L[0] = wTalk) from eqD_S]
  by_cases e0 : L[0] = wTalk
  · rw [if_neg (by rw [decide_eq_true e0]; decide)]
    rw [if_neg (by rw [g0, e0]; simp)] at q1 q2
    subst h1
    refine dSeq_k fun k1 h1 => ?_
    walk_at "dx"
    by_cases h2 : L.length < 2
    · rw [if_pos (by omega)]
      rw [List.getElem?_eq_none (by omega)] at q2
      exact retX_id rfl (q2 _ rfl)
    rw [if_neg (by omega)]
    have g1 : L[1]? = some L[1] := List.getElem?_eq_getElem (by omega)
    have ln1 := hln _ (List.getElem_mem (l := L) (n := 1) (by omega))
    rw [g1] at q1 q2
    generalize L[1] = l1 at g1 ln1 q1 q2
    subst h1
    refine dSeq_k fun k1 h1 => ?_
    walk_at "dx"
    dsimp only at q1 q2
    refine ⟨_, atI_map (by decide) g1, l1, wThrows, _, by rw [s_throws]; rfl, ln1, ⟨fun c hc => by have := low_throws c hc; omega, by decide⟩, fun zs hq => ?_, fun hq => ?_⟩
    · rw [hq] at q1 q2
      dsimp only at q1 q2
      subst h1
      refine dSeq_k fun k1 h1 => ?_
      walk_at "dx"
      refine ⟨by decide, ?_⟩
      subst h1
      refine dSeq_k fun k1 h1 => ?_
      walk_at "dx"
      subst h1
      refine dSeq_k fun k1 h1 => ?_
      unfold dWhile
      obtain ⟨R, hR⟩ : ∃ R, R = bodyQ L (L.length + 1) 2 [] := ⟨_, rfl⟩
      rw [← hR] at q1 q2
      refine ⟨fun n ρ m' => ∃ (A : List (List (List Int) × List Int)) (k : Nat) (o : Option D), k ≤ L.length ∧ L.length < n + k ∧ A.length ≤ k ∧ R = bodyQ L n k A ∧
        ρ = [some tx, some (.lst (L.map tS)), some (.lst (zs.map D.int)), some (.hnd m.M.length), some (.int (k : Nat)), o] ∧
        m' = m.push (.lst (A.map ansT)), ⟨L.length + 1, [], 2, _, by omega, by omega, by decide, hR, rfl, rfl⟩, ?_⟩
      rintro n ρ m' ⟨A, k, o, hk, hn2, hA, eR, rfl, rfl⟩
      walk_at "dx"
      obtain ⟨n, rfl⟩ : ∃ n', n = n' + 1 := ⟨n - 1, by omega⟩
      have eR2 : R = if L[k]? = some wLayer then match layQ (L.drop (k + 1)) (k + 1) [] with
          | .inl e => .inl e
          | .inr (a, j) => bodyQ L n j (A ++ [a])
        else if L.drop k = [wEnd, []] then .inr A else .inl (lastQ L k + 1) := eR
      have h0 : (0 : Int) ≤ ((k : Nat) : Int) := by omega
      -- behind the loop
      have out : L[k]? ≠ some wLayer → k1 [some tx, some (D.lst (List.map tS L)), some (D.lst (List.map D.int zs)), some (D.hnd m.M.length), some (D.int ↑k), o] { M := m.M ++ [MO.lst (List.map ansT A)], s := m.s } := fun hw => by
        rw [if_neg hw] at eR2
        subst h1
        refine dSeq_k fun k1 h1 => ?_
        walk_at "dx"
        rw [cutRt (by rw [List.length_map]; omega), ← List.map_drop, s_end, s_no]
        have okL : okE 64 (.lst ((L.drop k).map tS)) = true := okE_lst (n := 63) fun d hd => by
          obtain ⟨l, hl, rfl⟩ := List.mem_map.mp hd
          exact (hln l (List.mem_of_mem_drop hl)).ok
        refine ⟨by decide, okL, okE_two, ?_⟩
        rw [show eqD (.lst ((L.drop k).map tS)) (.lst [.str (SX.S wEnd), .str (SX.S [])]) = decide (L.drop k = [wEnd, []]) from eqDs_S (L.drop k) [wEnd, []]]
        by_cases e : L.drop k = [wEnd, []]
        · rw [if_neg (by rw [decide_eq_true e]; decide)]
          rw [if_pos e] at eR2
          rw [eR2] at q1
          subst h1
          unfold dFrz
          walk_at "dx"
          exact ⟨by decide, retQ_dead (L := [.dead]) (clD_pl _ (plD_told zs A)) (q1 zs A rfl)⟩
        · rw [if_pos (by rw [decide_eq_false e])]
          rw [if_neg e] at eR2
          rw [eR2] at q2
          exact ⟨L, k, rfl, hln, retX_push rfl (q2 (lastQ L k + 1) rfl)⟩
      by_cases hlt : k < L.length
      · rw [if_pos (by omega)]
        have g : L[k]? = some L[k] := List.getElem?_eq_getElem hlt
        refine ⟨_, atI_map h0 (by rw [Int.toNat_natCast]; exact g), (hln _ (List.getElem_mem hlt)).ok, by rw [s_layer]; exact low_layer.ok, ?_⟩
        rw [s_layer, show eqD (tS L[k]) (.str (SX.S wLayer)) = decide (L[k] = wLayer) from eqD_S]
        by_cases e : L[k] = wLayer
        · rw [if_pos (decide_eq_true e)]
          rw [if_pos (by rw [g, e])] at eR2
          refine ⟨L, k + 1, rfl, hln, by omega, hlt, fun a j hj => ?_, fun e he => ?_⟩
          · rw [hj] at eR2
            obtain ⟨j1, j2⟩ := lay_len _ _ _ _ _ hj
            rw [List.length_drop] at j2
            walk_at "dx"
            refine ⟨by show _ < 16777216; omega, n, Nat.lt_succ_self _, A ++ [a], j, _, by omega, by omega, by rw [List.length_append, List.length_singleton]; omega, eR2, rfl, ?_⟩
            simp [MM.push]
          · rw [he] at eR2
            rw [eR2] at q2
            exact retX_push rfl (q2 e rfl)
        · rw [if_neg (by rw [decide_eq_false e]; decide)]
          exact out fun h => e (Option.some.inj (g.symm.trans h))
      · rw [if_neg (by omega)]
        exact out (by rw [List.getElem?_eq_none (by omega)]; simp)
    · rw [hq] at q2
      exact retX_id rfl (q2 _ rfl)
  · rw [if_pos (by rw [decide_eq_false e0])]
    rw [if_pos (by rw [g0]; exact fun h => e0 (Option.some.inj h))] at q2
    exact retX_id rfl (q2 _ rfl)

end Dl
namespace K38
open PySem L2 Dl
local macro_rules | `(tactic| walk_at "dl") => `(tactic| try simp only [dSeq, dSet, dRaise_one, dRaise_two, dTryAs, dXf, dIsE, List.lookup_cons, List.lookup_nil, beq_self_eq_true, Bool.false_eq_true, if_false, dOp, dUn, dVar, dC, dCB, dCons, dNil, dRet, dRetN, dIf, dB, dAnd, dOr, dNot, dDrop, dNext, dMethL, dSetIx, dAndV, dOrV, dNotV, dBlV, dIfE, dLst, dTup, dLstM, dCall, dChain, dAsg, dgName, dgTup, bindD, asT, dFor, diList, diRng1, diRng2, diEnumerate, diZip, diReversed, dLc, dLcM, dYes, wipeD, dAug, dSl, dSlT, dpN, dpS,
  oI, oI0, oB0, oAdd, oNeg, oEq, oNe, oIx, oIsN, oNotN, isNon, oShl, oApp, oPop, oPopAt, cLen, cInt, cAbs, cSum, cMax2, cMin2, cList, cIsi, tyD, asL, asF, asK, moL_lst, ModC, DivC,
  List.getElem?_cons_zero, List.getElem?_cons_succ, List.set_cons_zero, List.set_cons_succ, List.getElem?_nil, List.length_cons, List.length_nil, List.length_map, Option.map_some, Option.bind_some, Option.isSome_some, if_true, true_and, and_true, MM.push])
local macro_rules | `(tactic| walk_at "dx") => `(tactic| try simp only [eq_self_iff_true, okE_int, okE_bl, okE_non, eqD_int, eqD_bl, kq_NoneType_int, kq_NoneType_bool, kq_NoneType_list, kq_NoneType_tuple, kq_NoneType_str, kq_bool_int, kq_bool_bool, kq_bool_list, kq_bool_tuple, kq_bool_str, kq_int_int, kq_int_bool, kq_int_list, kq_int_tuple, kq_int_str, kq_str_int, kq_str_bool, kq_str_list, kq_str_tuple, kq_str_str, kq_list_int, kq_list_bool, kq_list_list, kq_list_tuple, kq_list_str, kq_tuple_int, kq_tuple_bool, kq_tuple_list, kq_tuple_tuple, kq_tuple_str, dMethS, oSplit, oJoin, cStr, cIntS, diStr, oInS, oInL, oIsB, oNotB, oEqH, oNeH, oShr, oExt, cMaxL, cMinL, cAny, cAll, cTuple, cListM, dRevL, dFld, dSetF, dAugF, dMeth, dMake, moI_ins, app_len, set_app, List.contains_cons, List.contains_nil, Bool.true_or,  Bool.true_eq_false, decide_true, not_true_eq_false, not_false_eq_true, Bool.not_true, Bool.not_false, decide_eq_true_eq, Bool.not_eq_true', decide_eq_false_iff_not, dSeq, dSet, dRaise_one, dRaise_two, dTryAs, dXf, dIsE, List.lookup_cons, List.lookup_nil, beq_self_eq_true, Bool.false_eq_true, if_false, dOp, dUn, dVar, dC, dCB, dCons, dNil, dRet, dRetN, dIf, dB, dAnd, dOr, dNot, dDrop, dNext, dMethL, dSetIx, dAndV, dOrV, dNotV, dBlV, dIfE, dLst, dTup, dLstM, dCall, dChain, dAsg, dgName, dgTup, bindD, asT, dFor, diList, diRng1, diRng2, diEnumerate, diZip, diReversed, dLc, dLcM, dYes, wipeD, dAug, dSl, dSlT, dpN, dpS,
  oI, oI0, oB0, oAdd, oNeg, oEq, oNe, oIx, oIsN, oNotN, isNon, oShl, oApp, oPop, oPopAt, cLen, cInt, cAbs, cSum, cMax2, cMin2, cList, cIsi, tyD, asL, asF, asK, moL_lst, ModC, DivC,
  List.getElem?_cons_zero, List.getElem?_cons_succ, List.set_cons_zero, List.set_cons_succ, List.getElem?_nil, List.length_cons, List.length_nil, List.length_map, Option.map_some, Option.bind_some, Option.isSome_some, if_true, true_and, and_true, MM.push])
local macro_rules | `(tactic| walk_at "lim") => `(tactic| repeat (first | (refine ⟨by decide, ?_⟩) | (refine ⟨by (try simp only [List.length_map, List.length_dropLast, List.length_append, List.length_cons, List.length_nil, List.length_replicate, List.length_take, List.length_drop, List.length_range]); (show _ ≤ 16777216); omega, ?_⟩)))

set_option hygiene false in
local macro_rules | `(tactic| walk_at "stp") => `(tactic| (refine dSeq_k fun k1 h1 => ?_; walk_at "dx"))
set_option hygiene false in
local macro_rules | `(tactic| walk_at "nxt") => `(tactic| (subst h1; (try dsimp only); refine dSeq_k fun k1 h1 => ?_; walk_at "dx"))
set_option hygiene false in
local macro_rules | `(tactic| walk_at "lst") => `(tactic| (subst h1; (try dsimp only); walk_at "dx"))
set_option hygiene false in
local macro_rules | `(tactic| walk_at "nxt2") => `(tactic| (subst h2; (try dsimp only); refine dSeq_k fun k2 h2 => ?_; walk_at "dx"))
set_option hygiene false in
local macro_rules | `(tactic| walk_at "stp2") => `(tactic| (refine dSeq_k fun k2 h2 => ?_; walk_at "dx"))
set_option hygiene false in
local macro_rules | `(tactic| walk_at "lst2") => `(tactic| (subst h2; (try dsimp only); walk_at "dx"))
set_option hygiene false in
local macro_rules | `(tactic| walk_at "nx0") => `(tactic| (subst h1; (try dsimp only); refine dSeq_k fun k1 h1 => ?_))

--#TX
/-! ### the order of lines, as a walk from state to state -/
def stepQ : Nat → List Nat → Option Nat
  | 0, l => if l = wTalk then some 1 else none
  | 1, l => if (lineQ wThrows l).isSome = true then some 2 else none
  | 2, l => if l = wLayer then some 3 else if l = wEnd then some 4 else none
  | 3, l => if headW l = wPoly then if (lineQ wPoly l).isSome = true then some 3 else none else if (lineQ wLine l).isSome = true then some 2 else none
  | 4, l => if l = [] then some 5 else none
  | _, _ => none
theorem step0 {l : List Nat} : stepQ 0 l = if l = wTalk then some 1 else none := rfl
theorem step1 {l : List Nat} : stepQ 1 l = if (lineQ wThrows l).isSome = true then some 2 else none := rfl
theorem step2 {l : List Nat} : stepQ 2 l = if l = wLayer then some 3 else if l = wEnd then some 4 else none := rfl
theorem step3 {l : List Nat} : stepQ 3 l = if headW l = wPoly then if (lineQ wPoly l).isSome = true then some 3 else none else if (lineQ wLine l).isSome = true then some 2 else none := rfl
theorem step4 {l : List Nat} : stepQ 4 l = if l = [] then some 5 else none := rfl
theorem step5 {l : List Nat} : stepQ 5 l = none := rfl
theorem step6 {l : List Nat} : stepQ 6 l = none := rfl
def dueN : Nat → Nat → List (List Nat) → Nat
  | s, k, [] => if s = 5 then 0 else k + 1
  | s, k, l :: r => match stepQ s l with
    | none => k + 1
    | some s' => dueN s' (k + 1) r
def tlN (L : List (List Nat)) : Nat := match talkQ L with
  | .inl e => e
  | .inr _ => 0
theorem dueN_cons {s k : Nat} {l : List Nat} {r : List (List Nat)} : dueN s k (l :: r) = match stepQ s l with
    | none => k + 1
    | some s' => dueN s' (k + 1) r := by
  cases s <;> rfl
theorem lay_due : ∀ (r : List (List Nat)) (k : Nat) (P : List (List Int)), (∀ e, layQ r k P = .inl e → dueN 3 k r = e) ∧ (∀ a j, layQ r k P = .inr (a, j) → dueN 3 k r = dueN 2 j (r.drop (j - k)))
  | [], k, P => ⟨fun e h => by
      have h : Sum.inl (k + 1) = Sum.inl e := h
      injection h, fun a j h => by
      have h : Sum.inl (k + 1) = Sum.inr (a, j) := h
      cases h⟩
  | l :: r, k, P => by
    rw [dueN_cons, step3]
    unfold layQ
    by_cases h : headW l = wPoly
    · rw [if_pos h, if_pos h]
      cases hq : lineQ wPoly l with
      | none =>
        refine ⟨fun e h => ?_, fun a j h => ?_⟩
        · injection h
        · cases h
      | some zs =>
        obtain ⟨h1, h2⟩ := lay_due r (k + 1) (P ++ [zs])
        refine ⟨fun e h => h1 e h, fun a j h => ?_⟩
        obtain ⟨j1, j2⟩ := lay_len _ _ _ _ _ h
        rw [show j - k = (j - (k + 1)) + 1 by omega, List.drop_succ_cons]
        exact h2 a j h
    · rw [if_neg h, if_neg h]
      cases hq : lineQ wLine l with
      | none =>
        refine ⟨fun e h => ?_, fun a j h => ?_⟩
        · injection h
        · cases h
      | some zs =>
        refine ⟨fun e h => ?_, fun a j h => ?_⟩
        · cases h
        · injection h with h
          injection h with h1 h2
          rw [← h2, show k + 1 - k = 0 + 1 by omega, List.drop_succ_cons, List.drop_zero]
          rfl
theorem last_due {L : List (List Nat)} {k : Nat} (hw : L[k]? ≠ some wLayer) : dueN 2 k (L.drop k) = if L.drop k = [wEnd, []] then 0 else lastQ L k + 1 := by
  have g0 : L[k]? = (L.drop k)[0]? := by rw [List.getElem?_drop]; rfl
  have g1 : L[k + 1]? = (L.drop k)[1]? := by rw [List.getElem?_drop]
  unfold lastQ
  rw [g0, g1]
  rw [g0] at hw
  generalize L.drop k = R at hw
  cases R with
  | nil => rfl
  | cons l r =>
    have hw : l ≠ wLayer := fun h => hw (by rw [h]; rfl)
    rw [dueN_cons, step2, if_neg hw]
    by_cases he : l = wEnd
    · subst he
      rw [if_pos rfl]
      cases r with
      | nil => rfl
      | cons l2 r2 =>
        show dueN 4 (k + 1) (l2 :: r2) = _
        rw [dueN_cons, step4]
        by_cases h2 : l2 = []
        · subst h2
          rw [if_pos rfl]
          cases r2 with
          | nil => rfl
          | cons x y =>
            rw [if_neg (by simp)]
            rfl
        · rw [if_neg h2, if_neg (by simp [h2])]
          show k + 1 + 1 = _
          rw [if_pos (show (wEnd :: l2 :: r2)[0]? = some wEnd from rfl), if_neg (by simpa using h2)]
    · rw [if_neg he, if_neg (by simp [he]), if_neg (by simpa using he)]
theorem body_due {L : List (List Nat)} : ∀ (n k : Nat) (A : List (List (List Int) × List Int)), L.length < n + k → k ≤ L.length → (∀ e, bodyQ L n k A = .inl e → dueN 2 k (L.drop k) = e) ∧ (∀ B, bodyQ L n k A = .inr B → dueN 2 k (L.drop k) = 0)
  | 0, k, A, h, h2 => by omega
  | n + 1, k, A, h, h2 => by
    have e1 : bodyQ L (n + 1) k A = if L[k]? = some wLayer then match layQ (L.drop (k + 1)) (k + 1) [] with
        | .inl e => .inl e
        | .inr (a, j) => bodyQ L n j (A ++ [a])
      else if L.drop k = [wEnd, []] then .inr A else .inl (lastQ L k + 1) := rfl
    rw [e1]
    by_cases hw : L[k]? = some wLayer
    · rw [if_pos hw]
      have hlt := (List.getElem?_eq_some_iff.mp hw).1
      have hv := (List.getElem?_eq_some_iff.mp hw).2
      have hd : L.drop k = wLayer :: L.drop (k + 1) := by rw [List.drop_eq_getElem_cons hlt, hv]
      have e2 : dueN 2 k (L.drop k) = dueN 3 (k + 1) (L.drop (k + 1)) := by
        rw [hd, dueN_cons]
        rfl
      rw [e2]
      obtain ⟨g1, g2⟩ := lay_due (L.drop (k + 1)) (k + 1) []
      cases hl : layQ (L.drop (k + 1)) (k + 1) [] with
      | inl e =>
        refine ⟨fun e' h => ?_, fun B h => ?_⟩
        · injection h with h
          rw [← h]
          exact g1 e hl
        · cases h
      | inr p =>
        obtain ⟨a, j⟩ := p
        obtain ⟨j1, j2⟩ := lay_len _ _ _ _ _ hl
        rw [List.length_drop] at j2
        have z := g2 a j hl
        rw [List.drop_drop, show k + 1 + (j - (k + 1)) = j by omega] at z
        rw [z]
        exact body_due n j (A ++ [a]) (by omega) (by omega)
    · rw [if_neg hw, last_due hw]
      by_cases he : L.drop k = [wEnd, []]
      · rw [if_pos he, if_pos he]
        exact ⟨fun e h => (by cases h), fun B h => rfl⟩
      · rw [if_neg he, if_neg he]
        exact ⟨fun e h => (by injection h), fun B h => (by cases h)⟩
theorem tl_due {L : List (List Nat)} (hne : L ≠ []) (hl : L.length ≤ 20000) : tlN L = dueN 0 0 L := by
  unfold tlN talkQ
  rw [if_neg (by omega)]
  cases L with
  | nil => exact absurd rfl hne
  | cons l0 L1 =>
    rw [dueN_cons, step0]
    by_cases h0 : l0 = wTalk
    · subst h0
      rw [if_neg (by simp), if_pos rfl]
      cases L1 with
      | nil => rfl
      | cons l1 L2 =>
        show _ = dueN 1 1 (l1 :: L2)
        rw [dueN_cons, step1]
        show (match (match lineQ wThrows l1 with
          | none => _
          | some zs => _ : Sum Nat (List Int × List (List (List Int) × List Int))) with
          | .inl e => e
          | .inr _ => 0) = _
        cases hq : lineQ wThrows l1 with
        | none => rfl
        | some zs =>
          dsimp only
          obtain ⟨h1, h2⟩ := body_due (L := wTalk :: l1 :: L2) ((wTalk :: l1 :: L2).length + 1) 2 [] (by simp) (by simp)
          rw [show (wTalk :: l1 :: L2).drop 2 = L2 from rfl] at h1 h2
          cases hb : bodyQ (wTalk :: l1 :: L2) ((wTalk :: l1 :: L2).length + 1) 2 [] with
          | inl e => exact (h1 e hb).symm
          | inr B => exact (h2 B hb).symm
    · rw [if_pos (by simpa using h0), if_neg h0]
/-! ### good lines -/
theorem num_D' {n : Int} : (numZ n).all isD = true := List.all_eq_true.mpr fun c hc => by
  have := numZ_range c hc
  unfold isD
  rw [decide_eq_true this.1, decide_eq_true this.2]
  rfl
theorem numQ_num {z : Int} (h : 0 ≤ z ∧ z < 10000000000) : numQ (numZ z) = some z := by
  have l10 := numZ_len h
  have nd := num_D' (n := z)
  have hne := numZ_ne (z := z)
  have hz : ¬ ((numZ z).length > 1 ∧ (numZ z).headD 0 = 48) := fun ⟨g1, g2⟩ => by
    cases e : numZ z with
    | nil => exact hne e
    | cons c r =>
      rw [e] at g2
      have g2 : c = 48 := g2
      by_cases h0 : 1 ≤ z.toNat
      · exact numL_head _ h0 r (by rw [← g2]; exact e)
      · have : z.toNat = 0 := by omega
        unfold numZ at g1
        rw [this] at g1
        exact absurd g1 (by decide)
  have ok : okW (numZ z) = true := by
    unfold okW
    rw [decide_eq_true hne, decide_eq_true l10, nd]
    by_cases g1 : (numZ z).length > 1
    · rw [decide_eq_true g1, decide_eq_false (fun g2 => hz ⟨g1, g2⟩)]
      rfl
    · rw [decide_eq_false g1]
      rfl
  unfold numQ
  rw [if_pos ok]
  show some ((NumText.digitsVal (TL.numL z.toNat) : Nat) : Int) = some z
  rw [TL.numL_val, show ((z.toNat : Nat) : Int) = z by omega]
theorem mapQ_cons {α β : Type} {f : α → Option β} {x : α} {r : List α} : mapQ f (x :: r) = match f x with
    | none => none
    | some y => (mapQ f r).map (y :: ·) := rfl
theorem mapQ_num : ∀ {zs : List Int}, NumOK zs → mapQ numQ (zs.map numZ) = some zs
  | [], _ => rfl
  | z :: zs, h => by
    have ih := mapQ_num (zs := zs) fun y hy => h y (List.mem_cons_of_mem _ hy)
    rw [List.map_cons, mapQ_cons, numQ_num (h z List.mem_cons_self), ih]
    rfl
theorem wds_line {w : List Nat} {zs : List Int} (hw : 32 ∉ w) : wdsN 32 (lineN w zs) = w :: zs.map numZ := by
  unfold wdsN lineN
  rw [SX.spl_join (by simp) fun p hp => ?_]
  rcases List.mem_cons.mp hp with rfl | hp
  · exact hw
  · obtain ⟨z, _, rfl⟩ := List.mem_map.mp hp
    exact fun hm => by have := numZ_range 32 hm; omega
theorem head_line {w : List Nat} {zs : List Int} (hw : 32 ∉ w) : headW (lineN w zs) = w := by
  unfold headW
  rw [wds_line hw]
  rfl
theorem lineQ_line {w w' : List Nat} {zs : List Int} (hw : 32 ∉ w) (hz : NumOK zs) : lineQ w' (lineN w zs) = if w = w' then some zs else none := by
  unfold lineQ
  rw [head_line hw, wds_line hw]
  by_cases e : w = w'
  · rw [if_pos e, if_pos e]
    exact mapQ_num hz
  · rw [if_neg e, if_neg e]
/-- the lines that a conversation may have, anywhere -/
def Gl (l : List Nat) : Prop := l = wTalk ∨ l = wLayer ∨ l = wEnd ∨ l = [] ∨ ∃ w zs, (w = wThrows ∨ w = wPoly ∨ w = wLine) ∧ NumOK zs ∧ l = lineN w zs
def stOf (b : List Nat) : Nat := if b = wEnd then 4 else if b = wThrows ∨ b = wLine then 2 else if b = wLayer ∨ b = wPoly then 3 else if b = [] then 5 else 6
def fitB (b l : List Nat) : Bool := if b = wEnd then decide (l = []) else if b = wThrows ∨ b = wLine then decide (l = wLayer) || decide (l = wEnd) else (decide (b = wLayer) || decide (b = wPoly)) && (decide (headW l = wPoly) || decide (headW l = wLine))
def fitQ (L : List (List Nat)) (i : Nat) : Bool := if i < 2 then decide (headW (L[i]?.getD []) = if i = 0 then wTalk else wThrows) else fitB (headW (L[i - 1]?.getD [])) (L[i]?.getD [])
/-- what a good line is, by its first word -/
structure Kd (l : List Nat) : Prop where
  talk : headW l = wTalk ↔ l = wTalk
  layer : headW l = wLayer ↔ l = wLayer
  end_ : headW l = wEnd ↔ l = wEnd
  emp : headW l = [] ↔ l = []
  thr : headW l = wThrows ↔ (lineQ wThrows l).isSome = true
  poly : headW l = wPoly ↔ (lineQ wPoly l).isSome = true
  line : headW l = wLine ↔ (lineQ wLine l).isSome = true
  one : headW l = wTalk ∨ headW l = wLayer ∨ headW l = wEnd ∨ headW l = [] ∨ headW l = wThrows ∨ headW l = wPoly ∨ headW l = wLine
theorem gl_kd {l : List Nat} (h : Gl l) : Kd l := by
  rcases h with rfl | rfl | rfl | rfl | ⟨w, zs, hw, hz, rfl⟩
  · exact ⟨by decide +kernel, by decide +kernel, by decide +kernel, by decide +kernel, by decide +kernel, by decide +kernel, by decide +kernel, by decide +kernel⟩
  · exact ⟨by decide +kernel, by decide +kernel, by decide +kernel, by decide +kernel, by decide +kernel, by decide +kernel, by decide +kernel, by decide +kernel⟩
  · exact ⟨by decide +kernel, by decide +kernel, by decide +kernel, by decide +kernel, by decide +kernel, by decide +kernel, by decide +kernel, by decide +kernel⟩
  · exact ⟨by decide +kernel, by decide +kernel, by decide +kernel, by decide +kernel, by decide +kernel, by decide +kernel, by decide +kernel, by decide +kernel⟩
  · have h32 : 32 ∉ w := by rcases hw with rfl | rfl | rfl <;> decide
    have hh : headW (lineN w zs) = w := head_line h32
    have key : ∀ x, headW x ≠ headW (lineN w zs) → x ≠ lineN w zs := fun x hx e => hx (by rw [e])
    have nt : lineN w zs ≠ wTalk := fun e => by rw [e] at hh; rcases hw with rfl | rfl | rfl <;> exact absurd hh (by decide +kernel)
    have nl : lineN w zs ≠ wLayer := fun e => by rw [e] at hh; rcases hw with rfl | rfl | rfl <;> exact absurd hh (by decide +kernel)
    have ne : lineN w zs ≠ wEnd := fun e => by rw [e] at hh; rcases hw with rfl | rfl | rfl <;> exact absurd hh (by decide +kernel)
    have nm : lineN w zs ≠ [] := fun e => by rw [e] at hh; rcases hw with rfl | rfl | rfl <;> exact absurd hh (by decide +kernel)
    have q : ∀ w', (w = w' ↔ (lineQ w' (lineN w zs)).isSome = true) := fun w' => by
      rw [lineQ_line h32 hz]
      by_cases e : w = w' <;> simp [e]
    refine ⟨?_, ?_, ?_, ?_, by rw [hh]; exact q _, by rw [hh]; exact q _, by rw [hh]; exact q _, by rw [hh]; rcases hw with rfl | rfl | rfl <;> simp⟩
    · rw [hh]
      exact ⟨fun e => by subst e; rcases hw with e | e | e <;> exact absurd e (by decide), fun e => absurd e nt⟩
    · rw [hh]
      exact ⟨fun e => by subst e; rcases hw with e | e | e <;> exact absurd e (by decide), fun e => absurd e nl⟩
    · rw [hh]
      exact ⟨fun e => by subst e; rcases hw with e | e | e <;> exact absurd e (by decide), fun e => absurd e ne⟩
    · rw [hh]
      exact ⟨fun e => by subst e; rcases hw with e | e | e <;> exact absurd e (by decide), fun e => absurd e nm⟩
theorem fit2 {b l : List Nat} (h : fitB b l = (decide (l = wLayer) || decide (l = wEnd))) : stepQ 2 l = if fitB b l = true then some (stOf (headW l)) else none := by
  rw [h, step2]
  by_cases h1 : l = wLayer
  · rw [if_pos h1, decide_eq_true h1, Bool.true_or, if_pos rfl, h1]
    decide +kernel
  · rw [if_neg h1, decide_eq_false h1, Bool.false_or]
    by_cases h2 : l = wEnd
    · rw [if_pos h2, decide_eq_true h2, if_pos rfl, h2]
      decide +kernel
    · rw [if_neg h2, decide_eq_false h2, if_neg (by decide)]
theorem fit3 {b l : List Nat} (k : Kd l) (h : fitB b l = (decide (headW l = wPoly) || decide (headW l = wLine))) : stepQ 3 l = if fitB b l = true then some (stOf (headW l)) else none := by
  rw [h, step3]
  by_cases h1 : headW l = wPoly
  · rw [if_pos h1, if_pos (k.poly.mp h1), decide_eq_true h1, Bool.true_or, if_pos rfl, h1]
    decide
  · rw [if_neg h1, decide_eq_false h1, Bool.false_or]
    by_cases h2 : headW l = wLine
    · rw [if_pos (k.line.mp h2), decide_eq_true h2, if_pos rfl, h2]
      decide
    · rw [if_neg (fun hh => h2 (k.line.mpr hh)), decide_eq_false h2, if_neg (by decide)]
theorem step_fit {b l : List Nat} (hb : b = wTalk ∨ b = wLayer ∨ b = wEnd ∨ b = [] ∨ b = wThrows ∨ b = wPoly ∨ b = wLine) (k : Kd l) : stepQ (stOf b) l = if fitB b l = true then some (stOf (headW l)) else none := by
  have n1 : wPoly ≠ wLine := by decide
  rcases hb with rfl | rfl | rfl | rfl | rfl | rfl | rfl
  · rw [show stOf wTalk = 6 by decide, step6, show fitB wTalk l = false by unfold fitB; rw [if_neg (by decide), if_neg (by decide), show decide (wTalk = wLayer) = false by decide, show decide (wTalk = wPoly) = false by decide]; rfl, if_neg (by decide)]
  · rw [show stOf wLayer = 3 by decide]
    exact fit3 k (by unfold fitB; rw [if_neg (by decide), if_neg (by decide), show decide (wLayer = wLayer) = true by decide, Bool.true_or, Bool.true_and])
  · rw [show stOf wEnd = 4 by decide, step4, show fitB wEnd l = decide (l = []) by unfold fitB; rw [if_pos rfl]]
    by_cases h : l = []
    · rw [if_pos h, if_pos (decide_eq_true h), h]
      decide
    · rw [if_neg h, if_neg (by rw [decide_eq_false h]; decide)]
  · rw [show stOf [] = 5 by decide, step5, show fitB [] l = false by unfold fitB; rw [if_neg (by decide), if_neg (by decide), show decide ([] = wLayer) = false by decide, show decide ([] = wPoly) = false by decide]; rfl, if_neg (by decide)]
  · rw [show stOf wThrows = 2 by decide]
    exact fit2 (by unfold fitB; rw [if_neg (by decide), if_pos (by decide)])
  · rw [show stOf wPoly = 3 by decide]
    exact fit3 k (by unfold fitB; rw [if_neg (by decide), if_neg (by decide), show decide (wPoly = wPoly) = true by decide, Bool.or_true, Bool.true_and])
  · rw [show stOf wLine = 2 by decide]
    exact fit2 (by unfold fitB; rw [if_neg (by decide), if_pos (by decide)])
def stA (L : List (List Nat)) (i : Nat) : Nat := if i = 0 then 0 else if i = 1 then 1 else stOf (headW (L[i - 1]?.getD []))
theorem fit_step {L : List (List Nat)} {i : Nat} (hG : ∀ l ∈ L, Gl l) (hi : i < L.length) : stepQ (stA L i) L[i] = if fitQ L i = true then some (stA L (i + 1)) else none := by
  have g : ∀ j, j < L.length → L[j]?.getD [] ∈ L ∧ (∀ h : j < L.length, L[j]?.getD [] = L[j]) := fun j h => ⟨by rw [List.getElem?_eq_getElem h]; exact List.getElem_mem h, fun h => by rw [List.getElem?_eq_getElem h]; rfl⟩
  have gi := (g i hi).2 hi
  have hm : L[i] ∈ L := List.getElem_mem hi
  have k := gl_kd (hG _ hm)
  unfold fitQ
  by_cases h2 : i < 2
  · rw [if_pos h2]
    rcases Nat.lt_or_ge i 1 with h1 | h1
    · have e : i = 0 := by omega
      subst e
      rw [if_pos rfl, gi, show stA L 0 = 0 from rfl, show stA L (0 + 1) = 1 from rfl, step0]
      by_cases h : L[0] = wTalk
      · rw [if_pos h, if_pos (decide_eq_true (k.talk.mpr h))]
      · rw [if_neg h, if_neg (by rw [decide_eq_false (fun hh => h (k.talk.mp hh))]; decide)]
    · have e : i = 1 := by omega
      subst e
      rw [if_neg (show ¬ ((1 : Nat) = 0) by decide), gi, show stA L 1 = 1 from rfl, step1]
      by_cases h : headW L[1] = wThrows
      · rw [if_pos (k.thr.mp h), if_pos (decide_eq_true h)]
        unfold stA
        rw [if_neg (by decide), if_neg (by decide), show 1 + 1 - 1 = 1 from rfl, gi, h]
        decide
      · rw [if_neg (fun hh => h (k.thr.mpr hh)), if_neg (by rw [decide_eq_false h]; decide)]
  · rw [if_neg h2]
    obtain ⟨pm, pe⟩ := g (i - 1) (by omega)
    have kp := gl_kd (hG _ pm)
    have e1 : stA L i = stOf (headW (L[i - 1]?.getD [])) := by
      unfold stA
      rw [if_neg (by omega), if_neg (by omega)]
    have e2 : stA L (i + 1) = stOf (headW L[i]) := by
      unfold stA
      rw [if_neg (by omega), if_neg (by omega), Nat.add_sub_cancel, gi]
    rw [e1, e2, gi]
    exact step_fit kp.one k
theorem fit_all {L : List (List Nat)} (hG : ∀ l ∈ L, Gl l) : ∀ i, i ≤ L.length → (∀ j, j < i → fitQ L j = true) → dueN 0 0 L = dueN (stA L i) i (L.drop i)
  | 0, _, _ => rfl
  | i + 1, hi, h => by
    rw [fit_all hG i (by omega) fun j hj => h j (by omega), List.drop_eq_getElem_cons (show i < L.length by omega), dueN_cons, fit_step hG (by omega), if_pos (h i (by omega))]
theorem fit_not {L : List (List Nat)} (hG : ∀ l ∈ L, Gl l) {i : Nat} (hi : i < L.length) (h : ∀ j, j < i → fitQ L j = true) (hn : fitQ L i = false) : dueN 0 0 L = i + 1 := by
  rw [fit_all hG i (by omega) h, List.drop_eq_getElem_cons hi, dueN_cons, fit_step hG hi, if_neg (by rw [hn]; decide)]
theorem fit_end {L : List (List Nat)} (hG : ∀ l ∈ L, Gl l) (hne : L ≠ []) (h : ∀ j, j < L.length → fitQ L j = true) : dueN 0 0 L = if L[L.length - 1]?.getD [] = [] then 0 else L.length + 1 := by
  have hp : 0 < L.length := List.length_pos_iff.mpr hne
  have gm : L[L.length - 1]?.getD [] ∈ L := by rw [List.getElem?_eq_getElem (by omega)]; exact List.getElem_mem _
  have k := gl_kd (hG _ gm)
  rw [fit_all hG L.length (Nat.le_refl _) h, List.drop_length]
  show (if stA L L.length = 5 then 0 else L.length + 1) = _
  have e5 : stA L L.length = if L.length = 1 then 1 else stOf (headW (L[L.length - 1]?.getD [])) := by
    unfold stA
    rw [if_neg (show ¬ (L.length = 0) by omega)]
  rw [e5]
  by_cases h1 : L.length = 1
  · have f := h 0 (by omega)
    unfold fitQ at f
    rw [if_pos (by decide), if_pos rfl] at f
    rw [h1] at k ⊢
    have f : headW (L[0]?.getD []) = wTalk := of_decide_eq_true f
    rw [if_pos (show (1 : Nat) = 1 from rfl), if_neg (show ¬ ((1 : Nat) = 5) by decide), if_neg]
    intro e
    have e : L[0]?.getD [] = [] := e
    rw [e] at f
    exact absurd f (by decide +kernel)
  · rw [if_neg h1]
    have ho := k.one
    by_cases e : L[L.length - 1]?.getD [] = []
    · rw [if_pos e, e]
      rfl
    · rw [if_neg e, if_neg]
      have hn : headW (L[L.length - 1]?.getD []) ≠ [] := fun hh => e (k.emp.mp hh)
      rcases ho with ho | ho | ho | ho | ho | ho | ho
      · rw [ho]; decide
      · rw [ho]; decide
      · rw [ho]; decide
      · exact absurd ho hn
      · rw [ho]; decide
      · rw [ho]; decide
      · rw [ho]; decide
/-- a short line -/
structure Tl (l : List Nat) : Prop where
  cd : ∀ c ∈ l, c < 1114112
  nl : 10 ∉ l
  len : l.length ≤ 30
theorem Tl.ln {l : List Nat} (h : Tl l) : Ln l := ⟨h.cd, by have := h.len; omega⟩
theorem due_take : ∀ (L : List (List Nat)) (s0 k0 : Nat), dueN s0 k0 L = 0 → ∀ k (hk : k < L.length), ∃ s s', (∀ r, dueN s0 k0 (L.take k ++ r) = dueN s (k0 + k) r) ∧ stepQ s L[k] = some s'
  | [], _, _, _, k, hk => absurd hk (Nat.not_lt_zero _)
  | l :: L, s0, k0, h, k, hk => by
    rw [dueN_cons] at h
    cases hs : stepQ s0 l with
    | none => rw [hs] at h; cases h
    | some s1 =>
      rw [hs] at h
      cases k with
      | zero => exact ⟨s0, s1, fun r => rfl, hs⟩
      | succ k =>
        obtain ⟨s, s', h1, h2⟩ := due_take L s1 (k0 + 1) h k (by rw [List.length_cons] at hk; omega)
        refine ⟨s, s', fun r => ?_, h2⟩
        rw [List.take_succ_cons, List.cons_append, dueN_cons, hs, show k0 + (k + 1) = k0 + 1 + k by omega]
        exact h1 r
/-- a whole conversation's lines -/
structure Base (B : List (List Nat)) : Prop where
  gl : ∀ l ∈ B, Gl l ∧ Tl l
  len : 4 ≤ B.length ∧ B.length ≤ 100
  due : dueN 0 0 B = 0
  nl : ∀ k (hk : k < B.length), B[k] = [] ↔ k + 1 = B.length
def badL : List (List Nat) := [[], [116, 97, 108, 107, 115], [116, 104, 114, 111, 119, 115, 32, 120], [108, 97, 121, 101, 114, 32, 49], [112, 111, 108, 121, 32, 48, 49], [108, 105, 110, 101, 32, 45, 49], [112, 111, 108, 121, 32, 32, 51], [108, 105, 110, 101, 32, 51, 32], [101, 110, 100, 32, 48], [76, 97, 121, 101, 114], [108, 105, 110, 101, 32, 49, 50, 51, 52, 53, 54, 55, 56, 57, 48, 49], [112, 111, 108, 121, 32, 49, 46, 53]]
theorem bad_tl : ∀ b ∈ badL, Tl b := fun b hb => by
  have a : badL.all (fun b => decide ((∀ c ∈ b, c < 1114112) ∧ 10 ∉ b ∧ b.length ≤ 30)) = true := by decide +kernel
  obtain ⟨h1, h2, h3⟩ := of_decide_eq_true (List.all_eq_true.mp a b hb)
  exact ⟨h1, h2, h3⟩
theorem step_big {s : Nat} {l : List Nat} (h : 5 ≤ s) : stepQ s l = none := by
  obtain ⟨k, rfl⟩ : ∃ k, s = k + 5 := ⟨s - 5, by omega⟩
  rfl
theorem bad_no {b : List Nat} (hb : b ∈ badL) (hne : b ≠ []) (s : Nat) : stepQ s b = none := by
  have a : badL.all (fun b => decide (b = []) || (List.range 5).all fun s => decide (stepQ s b = none)) = true := by decide +kernel
  have a := List.all_eq_true.mp a b hb
  rw [decide_eq_false hne, Bool.false_or] at a
  by_cases h : s < 5
  · exact of_decide_eq_true (List.all_eq_true.mp a s (List.mem_range.mpr h))
  · exact step_big (by omega)
theorem emp_no {s s' : Nat} (h : stepQ s [] = some s') : s = 4 := by
  by_cases h5 : s < 5
  · have a : (List.range 5).all (fun s => decide (s = 4) || decide (stepQ s [] = none)) = true := by decide +kernel
    have a := List.all_eq_true.mp a s (List.mem_range.mpr h5)
    rw [Bool.or_eq_true] at a
    rcases a with a | a
    · exact of_decide_eq_true a
    · rw [of_decide_eq_true a] at h
      cases h
  · rw [step_big (by omega)] at h
    cases h
/-- lines that lead to a state -/
structure Pre (s : Nat) (P : List (List Nat)) : Prop where
  gl : ∀ l ∈ P, Gl l ∧ Tl l ∧ l ≠ []
  walk : ∀ r, dueN 0 0 (P ++ r) = dueN s P.length r
theorem Pre.snoc {s s' : Nat} {P : List (List Nat)} {l : List Nat} (h : Pre s P) (g : Gl l) (t : Tl l) (ne : l ≠ []) (st : stepQ s l = some s') : Pre s' (P ++ [l]) := by
  refine ⟨fun x hx => ?_, fun r => ?_⟩
  · rcases List.mem_append.mp hx with hx | hx
    · exact h.gl x hx
    · rw [List.mem_singleton.mp hx]
      exact ⟨g, t, ne⟩
  · rw [List.append_assoc, h.walk, List.length_append, List.length_singleton, List.singleton_append, dueN_cons, st]
theorem tl_line {w : List Nat} {zs : List Int} (hw : Low w) (hz : (lineN w zs).length ≤ 30) : Tl (lineN w zs) := ⟨fun c hc => by have := lineN_low (zs := zs) hw c hc; omega, fun h => by have := lineN_low (zs := zs) hw 10 h; omega, hz⟩
theorem gl_line {w : List Nat} {zs : List Int} (hw : w = wThrows ∨ w = wPoly ∨ w = wLine) (hz : NumOK zs) : Gl (lineN w zs) := .inr (.inr (.inr (.inr ⟨w, zs, hw, hz, rfl⟩)))
theorem pre0 : Pre 2 [wTalk, lineN wThrows [3, 10]] := by
  have e0 : Pre 0 [] := ⟨by simp, fun r => rfl⟩
  have e1 : Pre 1 [wTalk] := e0.snoc (.inl rfl) ⟨by decide, by decide, by decide⟩ (by decide) rfl
  have hz : NumOK [3, 10] := fun z hz => by
    simp only [List.mem_cons, List.not_mem_nil, or_false] at hz
    omega
  refine e1.snoc (gl_line (.inl rfl) hz) (tl_line low_throws (by decide +kernel)) (by decide +kernel) ?_
  rw [step1, lineQ_line (by decide) hz]
  rfl
theorem pre_base {P : List (List Nat)} (h : Pre 2 P) (h2 : 2 ≤ P.length) (hl : P.length ≤ 50) : Base (P ++ [wEnd, []]) := by
  refine ⟨fun l hl => ?_, by rw [List.length_append]; show 4 ≤ _ + 2 ∧ _ + 2 ≤ 100; omega, ?_, fun k hk => ?_⟩
  · rcases List.mem_append.mp hl with hl | hl
    · exact ⟨(h.gl l hl).1, (h.gl l hl).2.1⟩
    · rcases List.mem_cons.mp hl with rfl | hl
      · exact ⟨.inr (.inr (.inl rfl)), ⟨by decide, by decide, by decide⟩⟩
      · rw [List.mem_singleton.mp hl]
        exact ⟨.inr (.inr (.inr (.inl rfl))), ⟨by decide, by decide, by decide⟩⟩
  · rw [h.walk]
    rfl
  · have hll : (P ++ [wEnd, []]).length = P.length + 2 := by rw [List.length_append]; rfl
    rcases Nat.lt_or_ge k P.length with hh | hh
    · rw [List.getElem_append_left hh]
      exact ⟨fun e => absurd e (h.gl _ (List.getElem_mem hh)).2.2, fun e => by omega⟩
    · rw [List.getElem_append_right hh]
      by_cases e : k = P.length
      · subst e
        simp
        decide
      · have e : k = P.length + 1 := by omega
        subst e
        simp
theorem s_po5 : PySem.Str.ofString "poly " = SX.S [112, 111, 108, 121, 32] := by decide +kernel
theorem s_sp7 : PySem.Str.ofString " 7" = SX.S [32, 55] := by decide +kernel
theorem s_li7 : PySem.Str.ofString "line 0 " = SX.S [108, 105, 110, 101, 32, 48, 32] := by decide +kernel
theorem s_th3 : PySem.Str.ofString "throws 3 10" = SX.S (lineN wThrows [3, 10]) := by decide +kernel
/-- a bad line in a line's place -/
theorem bad_due {B : List (List Nat)} (hB : Base B) {b : List Nat} (hb : b ∈ badL) {k : Nat} (hk : k < B.length) (h : b = [] → k + 1 ≠ B.length) (r : List (List Nat)) : dueN 0 0 (B.take k ++ b :: r) = k + 1 := by
  obtain ⟨s, s', h1, h2⟩ := due_take B 0 0 hB.due k hk
  rw [h1, dueN_cons, Nat.zero_add]
  have : stepQ s b = none := by
    by_cases e : b = []
    · subst e
      cases hs : stepQ s [] with
      | none => rfl
      | some s2 =>
        have := emp_no hs
        subst this
        rw [step4] at h2
        by_cases he : B[k] = []
        · exact absurd ((hB.nl k hk).mp he) (h rfl)
        · rw [if_neg he] at h2
          cases h2
    · exact bad_no hb e s
  rw [this]
theorem cut_due {B : List (List Nat)} (hB : Base B) {k : Nat} (hk : k < B.length) : dueN 0 0 (B.take k) = k + 1 := by
  obtain ⟨s, s', h1, h2⟩ := due_take B 0 0 hB.due k hk
  have z := h1 []
  rw [List.append_nil] at z
  rw [z, Nat.zero_add]
  show (if s = 5 then 0 else k + 1) = _
  rw [if_neg (fun e => by rw [e, step5] at h2; cases h2)]
theorem clS {n : Nat} : ∀ B : List (List Nat), clAll n (B.map tS) = true
  | [] => rfl
  | l :: B => by
    show (clD n (tS l) && clAll n (B.map tS)) = true
    rw [clS B]
    simp [tS, clD]
def C__law_lines : DC := fun ds m Φ _ => ds = [.st 1] ∧ m.s = 1 ∧ ∀ B, Base B → Φ (.lst (B.map tS)) m
def C__law_raised : DC := fun ds m Φ _ => ∃ L : List (List Nat), ds = [.lst (L.map tS)] ∧ L ≠ [] ∧ (∀ l ∈ L, Tl l) ∧ L.length ≤ 20101 ∧ Φ (.int (tlN L : Nat)) m
def C__law_fits : DC := fun ds m Φ _ => ∃ (L : List (List Nat)) (i : Nat), ds = [.lst (L.map tS), .int (i : Nat)] ∧ i < L.length ∧ (∀ l ∈ L, Ln l) ∧ Φ (.bl (fitQ L i)) m
def C__law_due : DC := fun ds m Φ _ => ∃ L : List (List Nat), ds = [.lst (L.map tS)] ∧ L ≠ [] ∧ (∀ l ∈ L, Gl l ∧ Ln l) ∧ L.length ≤ 1000 ∧ Φ (.int (dueN 0 0 L : Nat)) m

/- _law_lines: slots 0=_law_row 1=_law_lines_here 2=_law_k 3=_law_j -/
def W__law_lines : DS := dSeq (dSet 1 (dLstM (dCons (dC (.str (PySem.Str.ofString "talk"))) (dCons (dC (.str (PySem.Str.ofString "throws 3 10"))) (dNil))))) (dSeq (dFor (diRng1 (dCons (dCall 2 C_take (dCons (dVar 0) (dCons (dC (.int 4)) (dNil)))) (dNil))) (dgName 2) (dSeq (dDrop (dMethL oApp (dVar 1) (dCons (dC (.str (PySem.Str.ofString "layer"))) (dNil)))) (dSeq (dFor (diRng1 (dCons (dCall 2 C_take (dCons (dVar 0) (dCons (dC (.int 3)) (dNil)))) (dNil))) (dgName 3) (dDrop (dMethL oApp (dVar 1) (dCons (dOp oAdd (dOp oAdd (dC (.str (PySem.Str.ofString "poly "))) (dCB cStr (dCons (dCall 2 C_take (dCons (dVar 0) (dCons (dC (.int 59)) (dNil)))) (dNil)))) (dC (.str (PySem.Str.ofString " 7")))) (dNil))))) (dDrop (dMethL oApp (dVar 1) (dCons (dOp oAdd (dC (.str (PySem.Str.ofString "line 0 "))) (dCB cStr (dCons (dCall 2 C_take (dCons (dVar 0) (dCons (dC (.int 59)) (dNil)))) (dNil)))) (dNil))))))) (dRet (dOp oAdd (dVar 1) (dLst (dCons (dC (.str (PySem.Str.ofString "end"))) (dCons (dC (.str (PySem.Str.ofString ""))) (dNil)))))))
/- _law_raised: slots 0=_law_lines_here 1=e -/
def W__law_raised : DS := dSeq (dTryAs 1 [("TextError", true)] (dDrop (dCall 1 C_read_talk__e (dCons (dMethS oJoin (dC (.str (PySem.Str.ofString "\n"))) (dVar 0)) (dNil)))) (fun a1 d1 c1 => dSeq (dIf (dAnd (dB (dIsE a1 d1 [("TextError", true)] "TextError" c1 (dVar 1))) (dB (dIsE a1 d1 [("TextError", true)] "ValueError" c1 (dVar 1)))) (dRet (dXf a1 d1 "line" (dVar 1))) (dNext)) (dRet (dOp oSub (dC (.int 0)) (dC (.int 1)))))) (dRet (dC (.int 0)))
/- _law_fits: slots 0=_law_lines_here 1=_law_at 2=_law_word 3=_law_before -/
def W__law_fits : DS := dSeq (dSet 2 (dOp oIx (dMethS oSplit (dOp oIx (dVar 0) (dVar 1)) (dC (.str (PySem.Str.ofString " ")))) (dC (.int 0)))) (dSeq (dIf (dB (dOp oLt (dVar 1) (dC (.int 2)))) (dRet (dOp oEq (dVar 2) (dOp oIx (dLst (dCons (dC (.str (PySem.Str.ofString "talk"))) (dCons (dC (.str (PySem.Str.ofString "throws"))) (dNil)))) (dVar 1)))) (dNext)) (dSeq (dSet 3 (dOp oIx (dMethS oSplit (dOp oIx (dVar 0) (dOp oSub (dVar 1) (dC (.int 1)))) (dC (.str (PySem.Str.ofString " ")))) (dC (.int 0)))) (dSeq (dIf (dB (dOp oEq (dVar 3) (dC (.str (PySem.Str.ofString "end"))))) (dRet (dOp oEq (dOp oIx (dVar 0) (dVar 1)) (dC (.str (PySem.Str.ofString ""))))) (dNext)) (dSeq (dIf (dOr (dB (dOp oEq (dVar 3) (dC (.str (PySem.Str.ofString "throws"))))) (dB (dOp oEq (dVar 3) (dC (.str (PySem.Str.ofString "line")))))) (dRet (dOrV (dOp oEq (dOp oIx (dVar 0) (dVar 1)) (dC (.str (PySem.Str.ofString "layer")))) (dOp oEq (dOp oIx (dVar 0) (dVar 1)) (dC (.str (PySem.Str.ofString "end")))))) (dNext)) (dRet (dAndV (dOrV (dOp oEq (dVar 3) (dC (.str (PySem.Str.ofString "layer")))) (dOp oEq (dVar 3) (dC (.str (PySem.Str.ofString "poly"))))) (dOrV (dOp oEq (dVar 2) (dC (.str (PySem.Str.ofString "poly")))) (dOp oEq (dVar 2) (dC (.str (PySem.Str.ofString "line")))))))))))
/- _law_due: slots 0=_law_lines_here 1=_law_at -/
def W__law_due : DS := dSeq (dFor (diRng1 (dCons (dCB cLen (dCons (dVar 0) (dNil))) (dNil))) (dgName 1) (dIf (dNot (dB (dCall 2 C__law_fits (dCons (dVar 0) (dCons (dVar 1) (dNil)))))) (dRet (dOp oAdd (dVar 1) (dC (.int 1)))) (dNext))) (dSeq (dIf (dB (dOp oEq (dOp oIx (dVar 0) (dUn oNeg (dC (.int 1)))) (dC (.str (PySem.Str.ofString ""))))) (dRet (dC (.int 0))) (dNext)) (dRet (dOp oAdd (dCB cLen (dCons (dVar 0) (dNil))) (dC (.int 1)))))
/- law: slots 0=_law_script 1=_law_row 2=_law_lines_here 3=_law_at 4=_law_kind 5=_law_bad 6=_law_word 7=_law_more -/
def W_law : DS := dSeq (dSet 1 (dCall 1 C_stream (dCons (dVar 0) (dNil)))) (dSeq (dSet 2 (dCall 1 C__law_lines (dCons (dVar 1) (dNil)))) (dSeq (dIf (dB (dOp oNe (dCall 1 C__law_raised (dCons (dVar 2) (dNil))) (dC (.int 0)))) (dRet (dC (.bl false))) (dNext)) (dSeq (dSet 3 (dCall 2 C_take (dCons (dVar 1) (dCons (dCB cLen (dCons (dVar 2) (dNil))) (dNil))))) (dSeq (dSet 4 (dCall 2 C_take (dCons (dVar 1) (dCons (dC (.int 5)) (dNil))))) (dSeq (dIf (dB (dOp oEq (dVar 4) (dC (.int 0)))) (dSeq (dSet 5 (dLst (dCons (dC (.str (PySem.Str.ofString ""))) (dCons (dC (.str (PySem.Str.ofString "talks"))) (dCons (dC (.str (PySem.Str.ofString "throws x"))) (dCons (dC (.str (PySem.Str.ofString "layer 1"))) (dCons (dC (.str (PySem.Str.ofString "poly 01"))) (dCons (dC (.str (PySem.Str.ofString "line -1"))) (dCons (dC (.str (PySem.Str.ofString "poly  3"))) (dCons (dC (.str (PySem.Str.ofString "line 3 "))) (dCons (dC (.str (PySem.Str.ofString "end 0"))) (dCons (dC (.str (PySem.Str.ofString "Layer"))) (dCons (dC (.str (PySem.Str.ofString "line 12345678901"))) (dCons (dC (.str (PySem.Str.ofString "poly 1.5"))) (dNil))))))))))))))) (dSeq (dSet 6 (dOp oIx (dVar 5) (dCall 2 C_take (dCons (dVar 1) (dCons (dC (.int 12)) (dNil)))))) (dSeq (dIf (dAnd (dB (dOp oEq (dVar 6) (dC (.str (PySem.Str.ofString ""))))) (dOr (dB (dOp oEq (dVar 3) (dOp oSub (dCB cLen (dCons (dVar 2) (dNil))) (dC (.int 1))))) (dB (dOp oEq (dOp oIx (dVar 2) (dVar 3)) (dC (.str (PySem.Str.ofString ""))))))) (dRet (dC (.bl true))) (dNext)) (dRet (dOp oEq (dCall 1 C__law_raised (dCons (dOp oAdd (dOp oAdd (dSl (dVar 2) (dpN) (dpS (dVar 3))) (dLst (dCons (dVar 6) (dNil)))) (dSl (dVar 2) (dpS (dOp oAdd (dVar 3) (dC (.int 1)))) (dpN))) (dNil))) (dOp oAdd (dVar 3) (dC (.int 1)))))))) (dNext)) (dSeq (dIf (dB (dOp oEq (dVar 4) (dC (.int 1)))) (dRet (dIfE (dB (dOp oGt (dVar 3) (dC (.int 0)))) (dOp oEq (dCall 1 C__law_raised (dCons (dSl (dVar 2) (dpN) (dpS (dVar 3))) (dNil))) (dCB cMax2 (dCons (dC (.int 1)) (dCons (dCall 1 C__law_due (dCons (dSl (dVar 2) (dpN) (dpS (dVar 3))) (dNil))) (dNil))))) (dOp oEq (dCall 1 C__law_raised (dCons (dLst (dCons (dC (.str (PySem.Str.ofString ""))) (dNil))) (dNil))) (dC (.int 1))))) (dNext)) (dSeq (dIf (dB (dOp oEq (dVar 4) (dC (.int 2)))) (dRet (dOp oEq (dCall 1 C__law_raised (dCons (dOp oAdd (dSl (dVar 2) (dpN) (dpS (dVar 3))) (dSl (dVar 2) (dpS (dOp oAdd (dVar 3) (dC (.int 1)))) (dpN))) (dNil))) (dCall 1 C__law_due (dCons (dOp oAdd (dSl (dVar 2) (dpN) (dpS (dVar 3))) (dSl (dVar 2) (dpS (dOp oAdd (dVar 3) (dC (.int 1)))) (dpN))) (dNil))))) (dNext)) (dSeq (dIf (dB (dOp oEq (dVar 4) (dC (.int 3)))) (dSeq (dSet 7 (dOp oAdd (dOp oAdd (dSl (dVar 2) (dpN) (dpS (dVar 3))) (dLst (dCons (dOp oIx (dLst (dCons (dC (.str (PySem.Str.ofString "layer"))) (dCons (dC (.str (PySem.Str.ofString "line 5"))) (dCons (dC (.str (PySem.Str.ofString "poly 6"))) (dCons (dC (.str (PySem.Str.ofString "end"))) (dCons (dC (.str (PySem.Str.ofString "throws 1"))) (dNil))))))) (dCall 2 C_take (dCons (dVar 1) (dCons (dC (.int 5)) (dNil))))) (dNil)))) (dSl (dVar 2) (dpS (dVar 3)) (dpN)))) (dRet (dOp oEq (dCall 1 C__law_raised (dCons (dVar 7) (dNil))) (dCall 1 C__law_due (dCons (dVar 7) (dNil)))))) (dNext)) (dRet (dOp oEq (dCall 1 C__law_raised (dCons (dOp oAdd (dVar 2) (dOp oRep (dLst (dCons (dC (.str (PySem.Str.ofString ""))) (dNil))) (dC (.int 20001)))) (dNil))) (dC (.int 20001))))))))))))
theorem rd__law_raised : ∀ ds m Φ Ψ, ds.length = 1 → C__law_raised ds m Φ Ψ → W__law_raised { nx := fun _ m' => Φ .non m', rt := Φ } (fun _ => Ψ) (ds.map some ++ List.replicate (2 - ds.length) none) m := by
  intro ds m Φ Ψ _ h
  obtain ⟨L, rfl, hne, hL, hl, q⟩ := h
  change W__law_raised _ _ [some (.lst (L.map tS)), none] m
  unfold W__law_raised
  have hj := joinL_len (x := 10) (b := 30) (ps := L) fun p hp => (hL p hp).len
  have hz : Ln (TL.joinL [10] L) := ⟨fun c hc => by
    rcases join_mem hc with e | ⟨p, hp, h2⟩
    · omega
    · exact (hL p hp).cd c h2, by omega⟩
  have hw : wdsN 10 (TL.joinL [10] L) = L := SX.spl_join hne fun p hp => (hL p hp).nl
  unfold tlN at q
  walk_at "stp"
  refine ⟨L.map SX.S, by rw [List.map_map]; rfl, ?_⟩
  rw [s_nl, SX.lens, SX.join_S]
  simp only [SX.S_len, List.length_map, List.length_cons, List.length_nil]
  have hsum := sum_le (ps := L) (b := 30) fun p hp => (hL p hp).len
  refine ⟨by show _ ≤ 16777216; omega, TL.joinL [10] L, rfl, hz, fun zs A hA => ?_, fun e he => ?_⟩
  · rw [hw] at hA
    rw [hA] at q
    subst h1
    walk_at "dx"
    exact q
  · rw [hw] at he
    rw [he] at q
    intro a d
    refine ⟨true, rfl, ?_⟩
    rw [if_pos rfl]
    refine ⟨true, rfl, ?_⟩
    rw [if_pos rfl]
    exact ⟨_, rfl, q⟩
theorem rd__law_fits : ∀ ds m Φ Ψ, ds.length = 2 → C__law_fits ds m Φ Ψ → W__law_fits { nx := fun _ m' => Φ .non m', rt := Φ } (fun _ => Ψ) (ds.map some ++ List.replicate (4 - ds.length) none) m := by
  intro ds m Φ Ψ _ h
  obtain ⟨L, i, rfl, hi, hL, q⟩ := h
  change W__law_fits _ _ [some (.lst (L.map tS)), some (.int (i : Nat)), none, none] m
  unfold W__law_fits
  walk_at "stp"
  have wd : ∀ l, Ln l → ∃ p r, TL.spl [32] 0 [] l = p :: r ∧ headW l = p ∧ Ln p := fun l hl => by
    have hne := wdsN_ne (x := 32) (l := l)
    have hln : ∀ p ∈ wdsN 32 l, Ln p := fun p hp => wdsN_ln hl hp
    cases e : wdsN 32 l with
    | nil => exact absurd e hne
    | cons p r => exact ⟨p, r, e, by unfold headW; rw [e]; rfl, hln p (by rw [e]; exact List.mem_cons_self)⟩
  have gi : L[i]? = some L[i] := List.getElem?_eq_getElem hi
  have lni := hL _ (List.getElem_mem hi)
  have llen := lni.len
  refine ⟨_, atI_map (by omega) (by rw [Int.toNat_natCast]; exact gi), ?_⟩
  dsimp only [tS]
  obtain ⟨p, r, e1, e2, e3⟩ := wd _ lni
  refine ⟨by rw [s_sp]; decide, by rw [SX.S_len]; show _ ≤ 16777216; omega, ?_⟩
  rw [s_sp, SX.split_S (by decide) (by decide), List.map_map, e1]
  refine ⟨_, atI_cons0, ?_⟩
  unfold fitQ at q
  rw [gi, show (some L[i]).getD [] = L[i] from rfl, e2] at q
  generalize L[i] = l at gi lni llen q e1 e2
  walk_at "nxt"
  by_cases h2 : i < 2
  · rw [if_pos (by omega)]
    rw [if_pos h2] at q
    rw [s_talk, s_throws]
    by_cases h0 : i = 0
    · subst h0
      rw [if_pos rfl] at q
      refine ⟨by decide, _, rfl, e3.ok, okE_S fun c hc => by have := low_talk c hc; omega, ?_⟩
      rw [show eqD ((D.str ∘ SX.S) p) (.str (SX.S wTalk)) = decide (p = wTalk) from eqD_S]
      exact q
    · have e : i = 1 := by omega
      subst e
      rw [if_neg (by decide)] at q
      refine ⟨by decide, _, rfl, e3.ok, okE_S fun c hc => by have := low_throws c hc; omega, ?_⟩
      rw [show eqD ((D.str ∘ SX.S) p) (.str (SX.S wThrows)) = decide (p = wThrows) from eqD_S]
      exact q
  rw [if_neg (by omega)]
  rw [if_neg h2] at q
  have hp : i - 1 < L.length := by omega
  have gp : L[i - 1]? = some L[i - 1] := List.getElem?_eq_getElem hp
  have lnp := hL _ (List.getElem_mem hp)
  have plen := lnp.len
  rw [gp, show (some L[i - 1]).getD [] = L[i - 1] from rfl] at q
  obtain ⟨p2, r2, f1, f2, f3⟩ := wd _ lnp
  rw [f2] at q
  generalize L[i - 1] = l2 at gp lnp plen q f1 f2
  unfold fitB at q
  rw [e2] at q
  walk_at "nxt"
  refine ⟨_, atI_map (by omega) (by rw [show ((i : Nat) : Int) - 1 = ((i - 1 : Nat) : Int) by omega, Int.toNat_natCast]; exact gp), ?_⟩
  dsimp only [tS]
  refine ⟨by decide, by rw [SX.S_len]; show _ ≤ 16777216; omega, ?_⟩
  rw [s_sp, SX.split_S (by decide) (by decide), List.map_map, f1]
  refine ⟨_, atI_cons0, ?_⟩
  walk_at "nxt"
  have okl : ∀ w, Low w → okE 64 (tS w) = true := fun w h => h.ok
  rw [s_end, s_no]
  have oke : okE 64 (tS []) = true := okE_S (l := []) (by simp)
  refine ⟨f3.ok, okl _ low_end, ?_⟩
  rw [show eqD ((D.str ∘ SX.S) p2) (.str (SX.S wEnd)) = decide (p2 = wEnd) from eqD_S]
  by_cases b1 : p2 = wEnd
  · rw [if_pos (decide_eq_true b1)]
    rw [if_pos b1] at q
    refine ⟨_, atI_map (by omega) (by rw [Int.toNat_natCast]; exact gi), lni.ok, oke, ?_⟩
    rw [show eqD (tS l) (.str (SX.S [])) = decide (l = []) from eqD_S]
    exact q
  rw [if_neg (by rw [decide_eq_false b1]; decide)]
  rw [if_neg b1] at q
  walk_at "nxt"
  rw [s_throws, s_line, s_layer, s_end]
  refine ⟨f3.ok, okl _ low_throws, ?_⟩
  rw [show eqD ((D.str ∘ SX.S) p2) (.str (SX.S wThrows)) = decide (p2 = wThrows) from eqD_S]
  have two : p2 = wThrows ∨ p2 = wLine → ∃ d, atI (List.map tS L) ↑i = some d ∧ okE 64 d = true ∧ okE 64 (.str (SX.S wLayer)) = true ∧ (if eqD d (.str (SX.S wLayer)) = true then Φ (.bl true) m else ∃ d, atI (List.map tS L) ↑i = some d ∧ okE 64 d = true ∧ okE 64 (.str (SX.S wEnd)) = true ∧ Φ (.bl (eqD d (.str (SX.S wEnd)))) m) := fun h => by
    rw [if_pos h] at q
    refine ⟨_, atI_map (by omega) (by rw [Int.toNat_natCast]; exact gi), lni.ok, okl _ low_layer, ?_⟩
    rw [show eqD (tS l) (.str (SX.S wLayer)) = decide (l = wLayer) from eqD_S]
    by_cases e : l = wLayer
    · rw [if_pos (decide_eq_true e)]
      rw [decide_eq_true e, Bool.true_or] at q
      exact q
    · rw [if_neg (by rw [decide_eq_false e]; decide)]
      rw [decide_eq_false e, Bool.false_or] at q
      refine ⟨_, atI_map (by omega) (by rw [Int.toNat_natCast]; exact gi), lni.ok, okl _ low_end, ?_⟩
      rw [show eqD (tS l) (.str (SX.S wEnd)) = decide (l = wEnd) from eqD_S]
      exact q
  by_cases b2 : p2 = wThrows
  · rw [if_pos (decide_eq_true b2)]
    exact two (.inl b2)
  rw [if_neg (by rw [decide_eq_false b2]; decide)]
  refine ⟨f3.ok, okl _ low_line, ?_⟩
  rw [show eqD ((D.str ∘ SX.S) p2) (.str (SX.S wLine)) = decide (p2 = wLine) from eqD_S]
  by_cases b3 : p2 = wLine
  · rw [if_pos (decide_eq_true b3)]
    exact two (.inr b3)
  rw [if_neg (by rw [decide_eq_false b3]; decide)]
  clear two
  rw [if_neg (by simp [b2, b3])] at q
  subst h1
  walk_at "dx"
  rw [s_layer, s_poly, s_line]
  refine ⟨f3.ok, okl _ low_layer, ?_⟩
  rw [show eqD ((D.str ∘ SX.S) p2) (.str (SX.S wLayer)) = decide (p2 = wLayer) from eqD_S]
  have fin : (p2 = wLayer ∨ p2 = wPoly) → okE 64 ((D.str ∘ SX.S) p) = true ∧ okE 64 (D.str (SX.S wPoly)) = true ∧ (if eqD ((D.str ∘ SX.S) p) (D.str (SX.S wPoly)) = true then Φ (D.bl true) m else okE 64 ((D.str ∘ SX.S) p) = true ∧ okE 64 (D.str (SX.S wLine)) = true ∧ Φ (D.bl (eqD ((D.str ∘ SX.S) p) (D.str (SX.S wLine)))) m) := fun h => by
    have e : (decide (p2 = wLayer) || decide (p2 = wPoly)) = true := by
      rcases h with h | h
      · rw [decide_eq_true h, Bool.true_or]
      · rw [decide_eq_true h, Bool.or_true]
    rw [e, Bool.true_and] at q
    refine ⟨e3.ok, okl _ low_poly, ?_⟩
    rw [show eqD ((D.str ∘ SX.S) p) (.str (SX.S wPoly)) = decide (p = wPoly) from eqD_S]
    by_cases e : p = wPoly
    · rw [if_pos (decide_eq_true e)]
      rw [decide_eq_true e, Bool.true_or] at q
      exact q
    · rw [if_neg (by rw [decide_eq_false e]; decide)]
      rw [decide_eq_false e, Bool.false_or] at q
      refine ⟨e3.ok, okl _ low_line, ?_⟩
      rw [show eqD ((D.str ∘ SX.S) p) (.str (SX.S wLine)) = decide (p = wLine) from eqD_S]
      exact q
  by_cases b4 : p2 = wLayer
  · rw [if_pos (decide_eq_true b4)]
    exact fin (.inl b4)
  rw [if_neg (by rw [decide_eq_false b4]; decide)]
  refine ⟨f3.ok, okl _ low_poly, ?_⟩
  rw [show eqD ((D.str ∘ SX.S) p2) (.str (SX.S wPoly)) = decide (p2 = wPoly) from eqD_S]
  by_cases b5 : p2 = wPoly
  · rw [if_pos (decide_eq_true b5)]
    exact fin (.inr b5)
  rw [if_neg (by rw [decide_eq_false b5]; decide)]
  rw [decide_eq_false b4, decide_eq_false b5, Bool.false_or, Bool.false_and] at q
  exact q
theorem rd__law_due : ∀ ds m Φ Ψ, ds.length = 1 → C__law_due ds m Φ Ψ → W__law_due { nx := fun _ m' => Φ .non m', rt := Φ } (fun _ => Ψ) (ds.map some ++ List.replicate (2 - ds.length) none) m := by
  intro ds m Φ Ψ _ h
  obtain ⟨L, rfl, hne, hL, hl, q⟩ := h
  change W__law_due _ _ [some (.lst (L.map tS)), none] m
  unfold W__law_due
  walk_at "stp"
  refine ⟨⟨by omega, by omega⟩, ?_⟩
  rw [Int.toNat_natCast, rngD0]
  have hG : ∀ l ∈ L, Gl l := fun l hl => (hL l hl).1
  refine forW_nat (fun i ρ m' => ∃ o : Option D, (∀ j, j < i → fitQ L j = true) ∧ ρ = [some (.lst (L.map tS)), o] ∧ m' = m) ?_ ?_ ⟨_, fun j hj => absurd hj (Nat.not_lt_zero _), rfl, rfl⟩
  · rintro i k hi hk ρ m' ⟨o, hf, rfl, rfl⟩
    walk_at "dx"
    refine ⟨L, i, rfl, hi, fun l hl => (hL l hl).2, ?_⟩
    cases hq : fitQ L i with
    | true =>
      walk_at "dx"
      refine hk _ _ ⟨_, fun j hj => ?_, rfl, rfl⟩
      rcases Nat.lt_or_ge j i with h | h
      · exact hf j h
      · rw [show j = i by omega]
        exact hq
    | false =>
      walk_at "dx"
      rw [fit_not hG hi hf hq] at q
      exact q
  · rintro ρ m' ⟨o, hf, rfl, rfl⟩
    rw [fit_end hG hne hf] at q
    subst h1
    walk_at "dx"
    have hp : 0 < L.length := List.length_pos_iff.mpr hne
    have gl : L[L.length - 1]? = some L[L.length - 1] := List.getElem?_eq_getElem (by omega)
    have ln := (hL _ (List.getElem_mem (l := L) (n := L.length - 1) (by omega))).2
    rw [gl, show (some L[L.length - 1]).getD [] = L[L.length - 1] from rfl] at q
    generalize L[L.length - 1] = l at gl ln q
    rw [s_no]
    refine ⟨tS l, ?_, ln.ok, okE_S (l := []) (by simp), ?_⟩
    · obtain ⟨ys, y, eL⟩ := (List.eq_nil_or_concat L).resolve_left hne
      rw [List.concat_eq_append] at eL
      subst eL
      rw [List.map_append, List.map_cons, List.map_nil, atI_last]
      rw [List.length_append, List.length_singleton, Nat.add_sub_cancel, List.getElem?_append_right (Nat.le_refl _), Nat.sub_self] at gl
      rw [Option.some.inj gl]
    rw [show eqD (tS l) (.str (SX.S [])) = decide (l = []) from eqD_S]
    by_cases e : l = []
    · rw [if_pos (decide_eq_true e)]
      rw [if_pos e] at q
      exact q
    · rw [if_neg (by rw [decide_eq_false e]; decide)]
      rw [if_neg e] at q
      exact q
theorem rd__law_lines : ∀ ds m Φ Ψ, ds.length = 1 → C__law_lines ds m Φ Ψ → W__law_lines { nx := fun _ m' => retQ m Φ .non m', rt := retQ m Φ } (fun _ => retX m Ψ) (ds.map some ++ List.replicate (4 - ds.length) none) m := by
  intro ds m Φ Ψ _ h
  obtain ⟨rfl, hs, q⟩ := h
  change W__law_lines _ _ [some (.st 1), none, none, none] m
  unfold W__law_lines
  walk_at "stp"
  refine ⟨by decide, ?_⟩
  rw [s_talk, s_th3]
  subst h1
  refine dSeq_k fun k1 h1 => ?_
  walk_at "dx"
  refine ⟨4, rfl, hs, by decide, by decide, fun n n0 n4 => ?_⟩
  walk_at "dx"
  refine ⟨⟨by omega, by omega⟩, ?_⟩
  rw [rngD0]
  refine forW_nat (fun i ρ m' => ∃ (P : List (List Nat)) (o2 o3 : Option D), Pre 2 P ∧ P.length ≤ 2 + 4 * i ∧ 2 ≤ P.length ∧ ρ = [some (.st 1), some (.hnd m.M.length), o2, o3] ∧ m' = m.push (.lst (P.map tS))) ?_ ?_ ⟨[wTalk, lineN wThrows [3, 10]], _, _, pre0, by decide, by decide, rfl, rfl⟩
  · rintro i k hi hk ρ m' ⟨P, o2, o3, hP, hl, hl2, rfl, rfl⟩
    clear h1
    refine dSeq_k fun k1 h1 => ?_
    walk_at "dx"
    refine ⟨by show _ < 16777216; omega, ?_⟩
    rw [s_layer]
    have hP3 : Pre 3 (P ++ [wLayer]) := hP.snoc (.inr (.inl rfl)) ⟨by decide, by decide, by decide⟩ (by decide) rfl
    subst h1
    refine dSeq_k fun k1 h1 => ?_
    walk_at "dx"
    refine ⟨3, rfl, hs, by decide, by decide, fun n2 n20 n23 => ?_⟩
    walk_at "dx"
    refine ⟨⟨by omega, by omega⟩, ?_⟩
    rw [rngD0]
    refine forW_nat (fun j ρ m' => ∃ (R : List (List Nat)) (o3 : Option D), Pre 3 R ∧ R.length ≤ P.length + 1 + j ∧ 2 ≤ R.length ∧ ρ = [some (.st 1), some (.hnd m.M.length), some (.int (i : Nat)), o3] ∧ m' = m.push (.lst (R.map tS))) ?_ ?_ ⟨P ++ [wLayer], _, hP3, by simp, by rw [List.length_append]; omega, rfl, by simp [MM.push, tS]⟩
    · rintro j kk hj hkk ρ m' ⟨R, o3, hR, hRl, hR2, rfl, rfl⟩
      clear h1
      walk_at "dx"
      refine ⟨59, rfl, hs, by decide, by decide, fun t t0 t1 => ?_⟩
      walk_at "dx"
      have hz : NumOK [t, 7] := fun z hz => by
        simp only [List.mem_cons, List.not_mem_nil, or_false] at hz
        omega
      have n10 := numZ_len (z := t) (by omega)
      have e : PySem.Str.ofString "poly " ++ PySem.Str.ofString (toString t) ++ PySem.Str.ofString " 7" = SX.S (lineN wPoly [t, 7]) := by
        rw [numS t0, s_po5, s_sp7, SX.S_cat, SX.S_cat]
        unfold lineN
        simp [TL.joinL, wPoly, show numZ 7 = [55] by decide +kernel]
      have hll : (lineN wPoly [t, 7]).length ≤ 30 := by
        unfold lineN
        simp [TL.joinL, wPoly, show numZ 7 = [55] by decide +kernel]
        omega
      rw [e, numS t0, s_po5, s_sp7, SX.S_cat]
      simp only [SX.S_len, List.length_append, List.length_cons, List.length_nil]
      refine ⟨log2_lt (by omega), by show _ ≤ 16777216; omega, by show _ ≤ 16777216; omega, by show _ < 16777216; omega, hkk _ _ ⟨R ++ [lineN wPoly [t, 7]], _, hR.snoc (gl_line (.inr (.inl rfl)) hz) (tl_line low_poly hll) (fun h => by
        have := head_line (w := wPoly) (zs := [t, 7]) (by decide)
        rw [h] at this
        exact absurd this (by decide +kernel)) (by
        rw [step3, head_line (by decide), if_pos rfl, lineQ_line (by decide) hz]
        rfl), by rw [List.length_append, List.length_singleton]; omega, by rw [List.length_append]; omega, rfl, by simp [MM.push, tS]⟩⟩
    · rintro ρ m' ⟨R, o3, hR, hRl, hR2, rfl, rfl⟩
      subst h1
      dsimp only
      walk_at "dx"
      refine ⟨59, rfl, hs, by decide, by decide, fun t t0 t1 => ?_⟩
      walk_at "dx"
      have hz : NumOK [0, t] := fun z hz => by
        simp only [List.mem_cons, List.not_mem_nil, or_false] at hz
        omega
      have n10 := numZ_len (z := t) (by omega)
      have e : PySem.Str.ofString "line 0 " ++ PySem.Str.ofString (toString t) = SX.S (lineN wLine [0, t]) := by
        rw [numS t0, s_li7, SX.S_cat]
        unfold lineN
        simp [TL.joinL, wLine, show numZ 0 = [48] by decide +kernel]
      have hll : (lineN wLine [0, t]).length ≤ 30 := by
        unfold lineN
        simp [TL.joinL, wLine, show numZ 0 = [48] by decide +kernel]
        omega
      rw [e, numS t0, s_li7]
      simp only [SX.S_len, List.length_append, List.length_cons, List.length_nil]
      refine ⟨log2_lt (by omega), by show _ ≤ 16777216; omega, by show _ < 16777216; omega, hk _ _ ⟨R ++ [lineN wLine [0, t]], _, _, hR.snoc (gl_line (.inr (.inr rfl)) hz) (tl_line low_line hll) (fun h => by
        have := head_line (w := wLine) (zs := [0, t]) (by decide)
        rw [h] at this
        exact absurd this (by decide +kernel)) (by
        rw [step3, head_line (by decide), if_neg (by decide), lineQ_line (by decide) hz]
        rfl), by rw [List.length_append, List.length_singleton]; omega, by rw [List.length_append]; omega, rfl, by simp [MM.push, tS]⟩⟩
  · rintro ρ m' ⟨P, o2, o3, hP, hl, hl2, rfl, rfl⟩
    subst h1
    walk_at "dx"
    rw [s_end, s_no]
    refine ⟨by decide, by show _ ≤ 16777216; omega, ?_⟩
    rw [show P.map tS ++ [D.str (SX.S wEnd), D.str (SX.S [])] = (P ++ [wEnd, []]).map tS by rw [List.map_append]; rfl]
    exact retQ_dead (L := _) (clS _) (q _ (pre_base hP hl2 (by omega)))
theorem bad_eq : ([.str (PySem.Str.ofString ""), .str (PySem.Str.ofString "talks"), .str (PySem.Str.ofString "throws x"), .str (PySem.Str.ofString "layer 1"), .str (PySem.Str.ofString "poly 01"), .str (PySem.Str.ofString "line -1"), .str (PySem.Str.ofString "poly  3"), .str (PySem.Str.ofString "line 3 "), .str (PySem.Str.ofString "end 0"), .str (PySem.Str.ofString "Layer"), .str (PySem.Str.ofString "line 12345678901"), .str (PySem.Str.ofString "poly 1.5")] : List D) = badL.map tS := (congrArg (List.map D.str) (show ([PySem.Str.ofString "", PySem.Str.ofString "talks", PySem.Str.ofString "throws x", PySem.Str.ofString "layer 1", PySem.Str.ofString "poly 01", PySem.Str.ofString "line -1", PySem.Str.ofString "poly  3", PySem.Str.ofString "line 3 ", PySem.Str.ofString "end 0", PySem.Str.ofString "Layer", PySem.Str.ofString "line 12345678901", PySem.Str.ofString "poly 1.5"] : List Str) = badL.map SX.S by decide +kernel)).trans (by rw [List.map_map]; rfl)
def insL : List (List Nat) := [wLayer, lineN wLine [5], lineN wPoly [6], wEnd, lineN wThrows [1]]
theorem ins_eq : ([.str (PySem.Str.ofString "layer"), .str (PySem.Str.ofString "line 5"), .str (PySem.Str.ofString "poly 6"), .str (PySem.Str.ofString "end"), .str (PySem.Str.ofString "throws 1")] : List D) = insL.map tS := (congrArg (List.map D.str) (show ([PySem.Str.ofString "layer", PySem.Str.ofString "line 5", PySem.Str.ofString "poly 6", PySem.Str.ofString "end", PySem.Str.ofString "throws 1"] : List Str) = insL.map SX.S by decide +kernel)).trans (by rw [List.map_map]; rfl)
theorem ins_ok : ∀ l ∈ insL, Gl l ∧ Tl l := fun l hl => by
  have hn : ∀ n : Int, 0 ≤ n → n < 10 → NumOK [n] := fun n h0 h1 z hz => by
    rw [List.mem_singleton.mp hz]
    omega
  unfold insL at hl
  simp only [List.mem_cons, List.not_mem_nil, or_false] at hl
  rcases hl with rfl | rfl | rfl | rfl | rfl
  · exact ⟨.inr (.inl rfl), ⟨by decide, by decide, by decide⟩⟩
  · exact ⟨gl_line (.inr (.inr rfl)) (hn 5 (by decide) (by decide)), tl_line low_line (by decide +kernel)⟩
  · exact ⟨gl_line (.inr (.inl rfl)) (hn 6 (by decide) (by decide)), tl_line low_poly (by decide +kernel)⟩
  · exact ⟨.inr (.inr (.inl rfl)), ⟨by decide, by decide, by decide⟩⟩
  · exact ⟨gl_line (.inl rfl) (hn 1 (by decide) (by decide)), tl_line low_throws (by decide +kernel)⟩
theorem cutLt' {xs : List D} {k : Nat} (h : k ≤ xs.length) : cutD xs none (some (k : Nat)) = xs.take k := by
  unfold cutD
  rw [HT.sIx_none, HT.sIx_nat, Nat.min_eq_left h, List.drop_zero, Nat.sub_zero]
theorem flat_one {d : D} : ∀ n : Nat, (List.replicate n [d]).flatten = List.replicate n d
  | 0 => rfl
  | n + 1 => by
    rw [List.replicate_succ, List.replicate_succ, List.flatten_cons, flat_one n]
    rfl
theorem rd_law : ∀ ds m Φ Ψ, ds.length = 1 → CLaw ClawT ds m Φ Ψ → W_law { nx := fun _ m' => Φ .non m', rt := Φ } (fun _ => Ψ) (ds.map some ++ List.replicate (8 - ds.length) none) m := by
  intro ds m Φ Ψ _ h
  obtain ⟨ns, rfl, hlen, rfl, q⟩ := h
  change W_law _ _ [some (.rol (ns.map D.int)), none, none, none, none, none, none, none] _
  unfold W_law
  walk_at "stp"
  refine ⟨⟨ns, rfl, by omega⟩, rfl, ?_⟩
  walk_at "nxt"
  refine ⟨rfl, rfl, fun B hB => ?_⟩
  obtain ⟨l4, l100⟩ := hB.len
  have hne : B ≠ [] := fun e => by rw [e] at l4; exact absurd l4 (by decide)
  walk_at "nxt"
  refine ⟨B, rfl, hne, fun l hl => (hB.gl l hl).2, by omega, ?_⟩
  rw [tl_due hne (by omega), hB.due]
  walk_at "dx"
  rw [if_neg (by decide)]
  walk_at "nxt"
  refine ⟨B.length, rfl, rfl, by omega, by omega, fun k k0 k1' => ?_⟩
  walk_at "nxt"
  refine ⟨5, rfl, rfl, by decide, by decide, fun kd d0 d5 => ?_⟩
  obtain ⟨k, rfl⟩ := Int.eq_ofNat_of_zero_le k0
  have hk : k < B.length := by omega
  walk_at "nxt"
  have gk : B[k]? = some B[k] := List.getElem?_eq_getElem hk
  have bk := hB.nl k hk
  have lk := (hB.gl _ (List.getElem_mem hk)).2
  have tm : ∀ l ∈ B.take k, Gl l ∧ Tl l := fun l hl => hB.gl l (List.mem_of_mem_take hl)
  have dm : ∀ j, ∀ l ∈ B.drop j, Gl l ∧ Tl l := fun j l hl => hB.gl l (List.mem_of_mem_drop hl)
  have e1 : cutD (B.map tS) none (some ((k : Nat) : Int)) = (B.take k).map tS := by rw [cutLt' (by rw [List.length_map]; omega), List.map_take]
  have e2 : cutD (B.map tS) (some (((k : Nat) : Int) + 1)) none = (B.drop (k + 1)).map tS := by
    rw [show ((k : Nat) : Int) + 1 = ((k + 1 : Nat) : Int) by omega, cutRt (by rw [List.length_map]; omega), List.map_drop]
  have e3 : cutD (B.map tS) (some ((k : Nat) : Int)) none = (B.drop k).map tS := by rw [cutRt (by rw [List.length_map]; omega), List.map_drop]
  have lt : (B.take k).length = k := by rw [List.length_take]; omega
  have ld : (B.drop (k + 1)).length = B.length - (k + 1) := List.length_drop
  have ld2 : (B.drop k).length = B.length - k := List.length_drop
  have okI : ∀ i : Int, okE 64 (.int i) = true := fun i => rfl
  by_cases kd0 : kd = 0
  · rw [if_pos kd0, bad_eq]
    refine ⟨by decide, 12, rfl, rfl, by decide, by decide, fun t t0 t1 => ?_⟩
    dsimp only
    have hlb : badL.length = 12 := rfl
    have hg : badL[t.toNat]? = some badL[t.toNat] := List.getElem?_eq_getElem (by omega)
    have hm : badL[t.toNat] ∈ badL := List.getElem_mem _
    refine ⟨_, atI_map t0 hg, ?_⟩
    generalize badL[t.toNat] = b at hm
    have tb := bad_tl b hm
    have fin : (b = [] → k + 1 ≠ B.length) → 0 + 1 ≤ LIM ∧ (cutD (List.map tS B) none (some ↑k)).length + (0 + 1) ≤ LIM ∧ (cutD (List.map tS B) none (some ↑k) ++ [tS b]).length + (cutD (List.map tS B) (some (↑k + 1)) none).length ≤ LIM ∧
        C__law_raised [D.lst (cutD (List.map tS B) none (some ↑k) ++ [tS b] ++ cutD (List.map tS B) (some (↑k + 1)) none)] { M := [], s := 1 } (fun x m1 => okE 64 x = true ∧ Φ (D.bl (eqD x (D.int (↑k + 1)))) m1) Ψ := fun h => by
      rw [e1, e2]
      simp only [List.length_map, List.length_append, List.length_cons, List.length_nil]
      refine ⟨by decide, by show _ ≤ 16777216; omega, by show _ ≤ 16777216; omega, B.take k ++ b :: B.drop (k + 1), by rw [List.map_append, List.map_cons, List.append_assoc]; rfl, by simp, fun l hl => ?_, by rw [List.length_append, List.length_cons]; omega, ?_⟩
      · rcases List.mem_append.mp hl with hl | hl
        · exact (tm l hl).2
        · rcases List.mem_cons.mp hl with rfl | hl
          · exact tb
          · exact (dm _ l hl).2
      · rw [tl_due (by simp) (by rw [List.length_append, List.length_cons]; omega), bad_due hB hm hk h]
        refine ⟨rfl, ?_⟩
        rw [show ((k + 1 : Nat) : Int) = (k : Nat) + 1 by omega, eqD_self (okI _)]
        exact q _
    have oke : okE 64 (tS []) = true := okE_S (l := []) (by simp)
    rw [s_no]
    refine ⟨tb.ln.ok, oke, ?_⟩
    rw [show eqD (tS b) (.str (SX.S [])) = decide (b = []) from eqD_S]
    by_cases be : b = []
    · rw [if_pos (decide_eq_true be)]
      by_cases kl : k + 1 = B.length
      · rw [if_pos (by omega)]
        exact q _
      · rw [if_neg (by omega)]
        refine ⟨_, atI_map (by omega) (by rw [Int.toNat_natCast]; exact gk), lk.ln.ok, oke, ?_⟩
        rw [show eqD (tS B[k]) (.str (SX.S [])) = decide (B[k] = []) from eqD_S, if_neg (by rw [decide_eq_false (fun h => kl (bk.mp h))]; decide)]
        exact fin fun _ => kl
    · rw [if_neg (by rw [decide_eq_false be]; decide)]
      exact fin fun h => absurd h be
  rw [if_neg kd0]
  have same : ∀ L : List (List Nat), L ≠ [] → (∀ l ∈ L, Gl l ∧ Tl l) → L.length ≤ 1000 → C__law_raised [.lst (L.map tS)] ⟨[], 1⟩ (fun x m1 => C__law_due [.lst (L.map tS)] m1 (fun y m2 => okE 64 x = true ∧ okE 64 y = true ∧ Φ (.bl (eqD x y)) m2) Ψ) Ψ := fun L hne hL hl => by
    refine ⟨L, rfl, hne, fun l h => (hL l h).2, by omega, ?_⟩
    rw [tl_due hne (by omega)]
    refine ⟨L, rfl, hne, fun l h => ⟨(hL l h).1, (hL l h).2.ln⟩, hl, rfl, rfl, ?_⟩
    rw [eqD_self (okI _)]
    exact q _
  walk_at "nxt"
  by_cases kd1 : kd = 1
  · rw [if_pos kd1]
    by_cases hk0 : 0 < k
    · rw [if_pos (by omega), e1]
      have tne : B.take k ≠ [] := fun e => by rw [e] at lt; simp at lt; omega
      refine ⟨B.take k, rfl, tne, fun l h => (tm l h).2, by omega, ?_⟩
      rw [tl_due tne (by omega)]
      refine ⟨B.take k, rfl, tne, fun l h => ⟨(tm l h).1, (tm l h).2.ln⟩, by omega, ?_⟩
      rw [cut_due hB hk]
      dsimp only
      rw [show (if ((k + 1 : Nat) : Int) > 1 then ((k + 1 : Nat) : Int) else 1) = ((k + 1 : Nat) : Int) by rw [if_pos (by omega)]]
      refine ⟨rfl, ?_⟩
      rw [eqD_self (okI _)]
      exact q _
    · rw [if_neg (by omega), s_no]
      refine ⟨by decide, [[]], rfl, by simp, fun l hl => by rw [List.mem_singleton.mp hl]; exact ⟨by simp, by simp, by decide⟩, by decide, ?_⟩
      rw [tl_due (by simp) (by decide), show dueN 0 0 [[]] = 1 from rfl]
      exact ⟨rfl, q _⟩
  rw [if_neg kd1]
  walk_at "nxt"
  by_cases kd2 : kd = 2
  · rw [if_pos kd2, e1, e2]
    simp only [List.length_map]
    refine ⟨by show _ ≤ 16777216; omega, ?_⟩
    have tne : B.take k ++ B.drop (k + 1) ≠ [] := fun e => by
      have := congrArg List.length e
      rw [List.length_append, lt, ld, List.length_nil] at this
      omega
    have z := same (B.take k ++ B.drop (k + 1)) tne (fun l hl => (List.mem_append.mp hl).elim (tm l) (dm _ l)) (by rw [List.length_append]; omega)
    rw [List.map_append] at z
    obtain ⟨L, a1, a2, a3, a4, L2, b1, b2, b3, b4, b5⟩ := z
    exact ⟨L, a1, a2, a3, a4, by show _ ≤ 16777216; omega, L2, b1, b2, b3, b4, b5⟩
  rw [if_neg kd2]
  walk_at "nxt"
  by_cases kd3 : kd = 3
  · rw [if_pos kd3, ins_eq]
    refine ⟨by decide, 5, rfl, rfl, by decide, by decide, fun t t0 t1 => ?_⟩
    dsimp only
    have hlb : insL.length = 5 := rfl
    have hg : insL[t.toNat]? = some insL[t.toNat] := List.getElem?_eq_getElem (by omega)
    have hm : insL[t.toNat] ∈ insL := List.getElem_mem _
    refine ⟨_, atI_map t0 hg, ?_⟩
    generalize insL[t.toNat] = b at hm
    have tb := ins_ok b hm
    rw [e1, e3]
    simp only [List.length_map, List.length_append, List.length_cons, List.length_nil]
    refine ⟨by decide, by show _ ≤ 16777216; omega, by show _ ≤ 16777216; omega, ?_⟩
    have z := same (B.take k ++ [b] ++ B.drop k) (by simp) (fun l hl => by
      rcases List.mem_append.mp hl with hl | hl
      · rcases List.mem_append.mp hl with hl | hl
        · exact tm l hl
        · rw [List.mem_singleton.mp hl]
          exact tb
      · exact dm _ l hl) (by rw [List.length_append, List.length_append, List.length_singleton]; omega)
    rw [List.map_append, List.map_append] at z
    exact z
  rw [if_neg kd3]
  subst h1
  walk_at "dx"
  rw [s_no]
  refine ⟨by decide, by decide, by decide, by decide, ?_⟩
  rw [flat_one, show D.str (SX.S []) = tS [] from rfl, ← List.map_replicate, show Int.toNat 20001 = 20001 from rfl]
  generalize hN : 20001 = N
  dsimp only
  simp only [List.length_map, List.length_replicate]
  refine ⟨by show _ ≤ 16777216; omega, B ++ List.replicate N [], by rw [List.map_append], by simp [hne], fun l hl => ?_, by rw [List.length_append, List.length_replicate]; omega, ?_⟩
  · rcases List.mem_append.mp hl with hl | hl
    · exact (hB.gl l hl).2
    · rw [List.eq_of_mem_replicate hl]
      exact ⟨by simp, by simp, by decide⟩
  · have e : tlN (B ++ List.replicate N []) = 20001 := by
      unfold tlN talkQ
      rw [if_pos (by rw [List.length_append, List.length_replicate]; omega)]
    rw [e]
    exact ⟨rfl, q _⟩

theorem ok_TextError {P : Program} {w : World} {K : PySem.W.Frag} {mg : Str → Option Value} {base : Heap} (T : Txt K mg) : ErrOk P w K mg base "TextError" ["line"] := by
  obtain ⟨m, x, hno, fI, fd, i1, i2, F, b⟩ := T.e_TextError
  exact ⟨m, x, by decide, fI, fd, _, i1, i2, b, err_init1 F sc_TextError_init rfl (fun _ _ _ _ _ _ => ps_expr (pe_binit (by rfl) T.i_TextError.mgb T.i_TextError.ini (pa_cons (pe_var (i := 0) rfl (.inl rfl)) (pa_cons pe_str pa_nil)))) (fun _ _ _ _ _ _ => ps_ost (pe_var (i := 0) rfl (.inl rfl)) (pe_var (i := 1) rfl (.inl rfl))) x (hno "line" (by decide))⟩
theorem ok_number_of {P : Program} {w : World} {K : PySem.W.Frag} {mg : Str → Option Value} {base : Heap} (T : Txt K mg) (G_TextError : ErrOk P w K mg base "TextError" ["line"]) : Ok P w K mg base "number_of" 3 ["word", "at"] C_number_of__e := by
  obtain ⟨f, fd, F, hm, b⟩ := T.d_number_of
  exact ⟨f, fd, hm, F.kp, b, okD (W := W_number_of__e) (k := 2) F sc_number_of (fun cdv A outer s H E hr => jss_cons (js_if (PW.pt (jw_or (jt_cmp (op_eqD hr.units) opl_eq (je_callB call_len cbl_len (by rfl) T.n_len bt_len (ja_cons (je_var 0) (ja_nil))) (je_int) (nomark _)) (jw_or (jt_cmp op_gt opl_gt (je_callB call_len cbl_len (by rfl) T.n_len bt_len (ja_cons (je_var 0) (ja_nil))) (je_int) (nomark _)) (jw_or1 (jt_val (je_callB (cr_any rfl) cbl_any (by rfl) T.n_any bt_any (ja_cons (je_lc (own := [("char", 2)]) rfl sc_number_of.nd (ji_str (je_var 0)) (blkOk_by (N := ["word", "at", "char"]) (sc := defScope s_number_of) (by decide +kernel)) (fun _ _ _ _ _ => jg_name (js := [2]) 2 (by decide) sc_number_of.nd rfl (Or.inl rfl)) (fun _ _ _ _ _ => jts_nil) (fun _ _ _ _ _ => je_cmp op_notIn_sign opl_notInS (je_var 2) ((je_globS (by rfl) T.k_DIGITS)) (by rfl))) (ja_nil)))))))) (jss_one (js_raise (c := "TextError") (fs := ["line"]) rfl takesD G_TextError (by rfl) (hr.mono (by decide)) (ja_cons (je_op op_addAll opl_add (je_var 1) (je_int)) (ja_nil)))) (jss_nil)) (jss_cons (js_if (PW.pt (jw_and (jt_cmp op_gt opl_gt (je_callB call_len cbl_len (by rfl) T.n_len bt_len (ja_cons (je_var 0) (ja_nil))) (je_int) (nomark _)) (jw_and1 (jt_cmp (op_eqD hr.units) opl_eq (je_ix (je_var 0) (je_int)) (je_str) (nomark _))))) (jss_one (js_raise (c := "TextError") (fs := ["line"]) rfl takesD G_TextError (by rfl) (hr.mono (by decide)) (ja_cons (je_op op_addAll opl_add (je_var 1) (je_int)) (ja_nil)))) (jss_nil)) (jss_one (js_ret (je_callTy call_int_str cbl_intS (by rfl) T.n_int bt_int (ja_cons (je_var 0) (ja_nil))))))) rd_number_of__e⟩
theorem ok_numbers_of {P : Program} {w : World} {K : PySem.W.Frag} {mg : Str → Option Value} {base : Heap} (T : Txt K mg) (G_TextError : ErrOk P w K mg base "TextError" ["line"]) (G_number_of : Ok P w K mg base "number_of" 3 ["word", "at"] C_number_of__e) : Ok P w K mg base "numbers_of" 4 ["line", "word", "at"] C_numbers_of__e := by
  obtain ⟨f, fd, F, hm, b⟩ := T.d_numbers_of
  exact ⟨f, fd, hm, F.kp, b, okD (W := W_numbers_of__e) (k := 3) F sc_numbers_of (fun cdv A outer s H E hr => jss_cons (js_set 3 sc_numbers_of.nd rfl (Or.inl rfl) (je_mS PySem.F.slot_str_split PySem.F.type_str_split mt_split mts_split (je_var 0) (je_str))) (jss_cons (js_if (jt_cmp (op_neD hr.units) opl_ne (je_ix (je_var 3) (je_int)) (je_var 1) (nomark _)) (jss_one (js_raise (c := "TextError") (fs := ["line"]) rfl takesD G_TextError (by rfl) (hr.mono (by decide)) (ja_cons (je_op op_addAll opl_add (je_var 2) (je_int)) (ja_nil)))) (jss_nil)) (jss_one (js_ret (je_lcE (own := [("part", 4)]) (takesD) rfl sc_numbers_of.nd (ji_list (je_sl (je_var 3) (jo_some (je_int)) (jo_none))) (blkOk_by (N := ["line", "word", "at", "words", "part"]) (sc := defScope s_numbers_of) (by decide +kernel)) (fun _ _ _ _ _ _ => jg_name (js := [4]) 4 (by decide) sc_numbers_of.nd rfl (Or.inl rfl)) (fun _ _ _ _ _ _ => jts_nil) (fun _ _ _ _ _ _ _ tkb => je_callO G_number_of tkb (hr.mono (by decide)) (by rfl) (ja_cons (je_var 4) (ja_cons (je_var 2) (ja_nil))) 2)))))) rd_numbers_of__e⟩
theorem ok_read_layer {P : Program} {w : World} {K : PySem.W.Frag} {mg : Str → Option Value} {base : Heap} (T : Txt K mg) (G_TextError : ErrOk P w K mg base "TextError" ["line"]) (G_numbers_of : Ok P w K mg base "numbers_of" 4 ["line", "word", "at"] C_numbers_of__e) : Ok P w K mg base "read_layer" 5 ["lines", "at"] C_read_layer__e := by
  obtain ⟨f, fd, F, hm, b⟩ := T.d_read_layer
  exact ⟨f, fd, hm, F.kp, b, okDQ (W := W_read_layer__e) (k := 4) F sc_read_layer (fun cdv A outer s H E hr => jss_cons (js_set 2 sc_read_layer.nd rfl (Or.inl rfl) (je_lstM (ja_nil))) (jss_cons (js_while passD (PW.pt (jw_and (jt_cmp op_lt opl_lt (je_var 1) (je_callB call_len cbl_len (by rfl) T.n_len bt_len (ja_cons (je_var 0) (ja_nil))) (nomark _)) (jw_and1 (jt_cmp (op_eqD hr.units) opl_eq (je_ix (je_mS PySem.F.slot_str_split PySem.F.type_str_split mt_split mts_split (je_ix (je_var 0) (je_var 1)) (je_str)) (je_int)) (je_str) (nomark _))))) (jss_cons (js_expr (je_mL PySem.F.slot_list_append PySem.F.type_list_append mt_append mtl_app (je_var 2) (ja_cons (je_callO G_numbers_of takesD (hr.mono (by decide)) (by rfl) (ja_cons (je_ix (je_var 0) (je_var 1)) (ja_cons (je_str) (ja_cons (je_var 1) (ja_nil)))) 3) (ja_nil)))) (jss_one (js_aug 1 sc_read_layer.nd rfl (Or.inl rfl) (je_int) iop_add opl_addI)))) (jss_cons (js_if (jt_cmp op_ge opl_ge (je_var 1) (je_callB call_len cbl_len (by rfl) T.n_len bt_len (ja_cons (je_var 0) (ja_nil))) (nomark _)) (jss_one (js_raise (c := "TextError") (fs := ["line"]) rfl takesD G_TextError (by rfl) (hr.mono (by decide)) (ja_cons (je_op op_addAll opl_add (je_var 1) (je_int)) (ja_nil)))) (jss_nil)) (jss_one (js_frz 2 (js_ret (je_tup (ja_cons (je_tup (ja_cons (je_var 2) (ja_cons (je_callO G_numbers_of takesD (hr.mono (by decide)) (by rfl) (ja_cons (je_ix (je_var 0) (je_var 1)) (ja_cons (je_str) (ja_cons (je_var 1) (ja_nil)))) 3) (ja_nil)))) (ja_cons (je_op op_addAll opl_add (je_var 1) (je_int)) (ja_nil)))))))))) rd_read_layer__e⟩
theorem ok_read_talk {P : Program} {w : World} {K : PySem.W.Frag} {mg : Str → Option Value} {base : Heap} (T : Txt K mg) (G_TextError : ErrOk P w K mg base "TextError" ["line"]) (G_numbers_of : Ok P w K mg base "numbers_of" 4 ["line", "word", "at"] C_numbers_of__e) (G_read_layer : Ok P w K mg base "read_layer" 5 ["lines", "at"] C_read_layer__e) (G_last_good : Ok P w K mg base "last_good" 1 ["lines", "at"] C_last_good__e) : Ok P w K mg base "read_talk" 6 ["text"] C_read_talk__e := by
  obtain ⟨f, fd, F, hm, b⟩ := T.d_read_talk
  exact ⟨f, fd, hm, F.kp, b, okDQ (W := W_read_talk__e) (k := 5) F sc_read_talk (fun cdv A outer s H E hr => jss_cons (js_set 1 sc_read_talk.nd rfl (Or.inl rfl) (je_mS PySem.F.slot_str_split PySem.F.type_str_split mt_split mts_split (je_var 0) (je_str))) (jss_cons (js_if (jt_cmp op_gt opl_gt (je_callB call_len cbl_len (by rfl) T.n_len bt_len (ja_cons (je_var 1) (ja_nil))) ((je_globE (by rfl) T.k_MAX_LINES)) (nomark _)) (jss_one (js_raise (c := "TextError") (fs := ["line"]) rfl takesD G_TextError (by rfl) (hr.mono (by decide)) (ja_cons (je_op op_addAll opl_add ((je_globE (by rfl) T.k_MAX_LINES)) (je_int)) (ja_nil)))) (jss_nil)) (jss_cons (js_if (jt_cmp (op_neD hr.units) opl_ne (je_ix (je_var 1) (je_int)) (je_str) (nomark _)) (jss_one (js_raise (c := "TextError") (fs := ["line"]) rfl takesD G_TextError (by rfl) (hr.mono (by decide)) (ja_cons (je_int) (ja_nil)))) (jss_nil)) (jss_cons (js_if (jt_cmp op_lt opl_lt (je_callB call_len cbl_len (by rfl) T.n_len bt_len (ja_cons (je_var 1) (ja_nil))) (je_int) (nomark _)) (jss_one (js_raise (c := "TextError") (fs := ["line"]) rfl takesD G_TextError (by rfl) (hr.mono (by decide)) (ja_cons (je_int) (ja_nil)))) (jss_nil)) (jss_cons (js_set 2 sc_read_talk.nd rfl (Or.inl rfl) (je_callO G_numbers_of takesD (hr.mono (by decide)) (by rfl) (ja_cons (je_ix (je_var 1) (je_int)) (ja_cons (je_str) (ja_cons (je_int) (ja_nil)))) 3)) (jss_cons (js_set 3 sc_read_talk.nd rfl (Or.inl rfl) (je_lstM (ja_nil))) (jss_cons (js_set 4 sc_read_talk.nd rfl (Or.inl rfl) (je_int)) (jss_cons (js_while passD (PW.pt (jw_and (jt_cmp op_lt opl_lt (je_var 4) (je_callB call_len cbl_len (by rfl) T.n_len bt_len (ja_cons (je_var 1) (ja_nil))) (nomark _)) (jw_and1 (jt_cmp (op_eqD hr.units) opl_eq (je_ix (je_var 1) (je_var 4)) (je_str) (nomark _))))) (jss_cons (js_asg (je_callO G_read_layer takesD (hr.mono (by decide)) (by rfl) (ja_cons (je_var 1) (ja_cons (je_op op_addAll opl_add (je_var 4) (je_int)) (ja_nil))) 2) (jg_tup (js := [5, 4]) [5, 4] rfl (by decide) (pgs_cons (pg_name (i := 5) sc_read_talk.nd rfl (Or.inl rfl)) (pgs_cons (pg_name (i := 4) sc_read_talk.nd rfl (Or.inl rfl)) (pgs_nil))))) (jss_one (js_expr (je_mL PySem.F.slot_list_append PySem.F.type_list_append mt_append mtl_app (je_var 3) (ja_cons (je_var 5) (ja_nil))))))) (jss_cons (js_if (jt_cmp (op_neD hr.units) opl_ne (je_sl (je_var 1) (jo_some (je_var 4)) (jo_none)) (je_lst (ja_cons (je_str) (ja_cons (je_str) (ja_nil)))) (nomark _)) (jss_one (js_raise (c := "TextError") (fs := ["line"]) rfl takesD G_TextError (by rfl) (hr.mono (by decide)) (ja_cons (je_op op_addAll opl_add (je_callO G_last_good takesD (hr.mono (by decide)) (by rfl) (ja_cons (je_var 1) (ja_cons (je_var 4) (ja_nil))) 2) (je_int)) (ja_nil)))) (jss_nil)) (jss_one (js_frz 3 (js_ret (je_tup (ja_cons (je_var 2) (ja_cons (je_var 3) (ja_nil)))))))))))))))) rd_read_talk__e⟩
theorem ok_last_good {P : Program} {w : World} {K : PySem.W.Frag} {mg : Str → Option Value} {base : Heap} (T : Txt K mg) : Ok P w K mg base "last_good" 1 ["lines", "at"] C_last_good__e := by
  obtain ⟨f, fd, F, hm, b⟩ := T.d_last_good
  exact ⟨f, fd, hm, F.kp, b, okD (W := W_last_good__e) (k := 0) F sc_last_good (fun cdv A outer s H E hr => jss_cons (js_set 2 sc_last_good.nd rfl (Or.inl rfl) (je_lst (ja_cons (je_str) (ja_cons (je_str) (ja_nil))))) (jss_cons (js_for passD rfl (ji_range1 (by rfl) T.n_range (ja_cons (je_int) (ja_nil))) (jg_name (js := [3]) 3 (by decide) sc_last_good.nd rfl (Or.inl rfl)) (jss_one (js_if (PW.pt (jw_or (jt_cmp op_ge opl_ge (je_op op_addAll opl_add (je_var 1) (je_var 3)) (je_callB call_len cbl_len (by rfl) T.n_len bt_len (ja_cons (je_var 0) (ja_nil))) (nomark _)) (jw_or1 (jt_cmp (op_neD hr.units) opl_ne (je_ix (je_var 0) (je_op op_addAll opl_add (je_var 1) (je_var 3))) (je_ix (je_var 2) (je_var 3)) (nomark _))))) (jss_one (js_ret (je_op op_addAll opl_add (je_var 1) (je_var 3)))) (jss_nil)))) (jss_one (js_ret (je_op op_addAll opl_add (je_var 1) (je_int)))))) rd_last_good__e⟩
theorem ok__law_stream {P : Program} {w : World} {K : PySem.W.Frag} {mg : Str → Option Value} {base : Heap} (T : Txt K mg) : Ok P w K mg base "_law_stream" 1 ["_law_script"] C_stream := by
  obtain ⟨f, fd, F, hm, b⟩ := T.d__law_stream
  exact stream_close ⟨f, fd, hm, F.kp, b, okD (C := C_streamO) (W := W_stream) (k := 0) F sc__law_stream (fun cdv A outer s H E hr => jss_cons (js_set 1 sc__law_stream.nd rfl (Or.inl rfl) (je_lstM (ja_cons (je_int) (ja_nil)))) (jss_cons (js_for passD rfl (ji_list (je_sl (je_var 0) (jo_none) (jo_some (je_int)))) (jg_name (js := [2]) 2 (by decide) sc__law_stream.nd rfl (Or.inl rfl)) (jss_cons (js_set 5 sc__law_stream.nd rfl (Or.inl rfl) (je_callB call_abs cbl_abs (by rfl) T.n_abs bt_abs (ja_cons (je_callTy call_int1 cbl_int (by rfl) T.n_int bt_int (ja_cons (je_var 2) (ja_nil))) (ja_nil)))) (jss_one (js_for passD rfl (ji_range1 (by rfl) T.n_range (ja_cons (je_int) (ja_nil))) (jg_name (js := [4]) 4 (by decide) sc__law_stream.nd rfl (Or.inl rfl)) (jss_cons (js_expr (je_mL PySem.F.slot_list_append PySem.F.type_list_append mt_append mtl_app (je_var 1) (ja_cons (je_op op_mod opl_mod (je_var 5) (je_int)) (ja_nil)))) (jss_cons (js_set 5 sc__law_stream.nd rfl (Or.inl rfl) (je_op op_fdivW opl_div (je_var 5) (je_int))) (jss_one (js_if (jt_cmp (op_eqD hr.units) opl_eq (je_var 5) (je_int) (nomark _)) (jss_one (js_break)) (jss_nil))))))))) (jss_cons (js_set 3 sc__law_stream.nd rfl (Or.inl rfl) (je_int)) (jss_cons (js_for passD rfl (ji_list (je_sl (je_var 0) (jo_none) (jo_some (je_int)))) (jg_name (js := [2]) 2 (by decide) sc__law_stream.nd rfl (Or.inl rfl)) (jss_one (js_set 3 sc__law_stream.nd rfl (Or.inl rfl) (je_op op_mod opl_mod (je_callTy call_int1 cbl_int (by rfl) T.n_int bt_int (ja_cons (je_op op_addAll opl_add (je_op op_addAll opl_add (je_op op_mulC opl_mul (je_var 3) (je_int)) (je_var 2)) (je_int)) (ja_nil))) (je_int))))) (jss_cons (js_for passD rfl (ji_range1 (by rfl) T.n_range (ja_cons (je_int) (ja_nil))) (jg_name (js := [4]) 4 (by decide) sc__law_stream.nd rfl (Or.inl rfl)) (jss_cons (js_set 3 sc__law_stream.nd rfl (Or.inl rfl) (je_op op_mod opl_mod (je_callTy call_int1 cbl_int (by rfl) T.n_int bt_int (ja_cons (je_op op_addAll opl_add (je_op op_addAll opl_add (je_op op_mulC opl_mul (je_var 3) (je_int)) (je_op op_mulC opl_mul (je_var 4) (je_int))) (je_int)) (ja_nil))) (je_int))) (jss_one (js_expr (je_mL PySem.F.slot_list_append PySem.F.type_list_append mt_append mtl_app (je_var 1) (ja_cons (je_op op_mod opl_mod (je_op op_fdivW opl_div (je_var 3) (je_int)) (je_int)) (ja_nil))))))) (jss_one (js_ret (je_var 1)))))))) rd_stream⟩
theorem ok__law_take {P : Program} {w : World} {K : PySem.W.Frag} {mg : Str → Option Value} {base : Heap} (T : Txt K mg) : Ok P w K mg base "_law_take" 1 ["_law_row", "_law_many"] C_take := by
  obtain ⟨f, fd, F, hm, b⟩ := T.d__law_take
  exact take_close ⟨f, fd, hm, F.kp, b, okD (C := C_takeO) (W := W_take) (k := 0) F sc__law_take (fun cdv A outer s H E hr => jss_cons (js_if (jt_cmp op_lt opl_lt (je_ix (je_var 0) (je_int)) (je_callB call_len cbl_len (by rfl) T.n_len bt_len (ja_cons (je_var 0) (ja_nil))) (nomark _)) (jss_cons (js_setIx (je_op op_addAll opl_add (je_ix (je_var 0) (je_int)) (je_int)) (je_var 0) (je_int) (pg_sub (je_var 0) (je_int) set_list)) (jss_one (js_ret (je_op op_mod opl_mod (je_callTy call_int1 cbl_int (by rfl) T.n_int bt_int (ja_cons (je_ix (je_var 0) (je_op op_sub opl_sub (je_ix (je_var 0) (je_int)) (je_int))) (ja_nil))) (je_var 1))))) (jss_nil)) (jss_one (js_ret (je_int)))) rd_take⟩
theorem ok__law_lines {P : Program} {w : World} {K : PySem.W.Frag} {mg : Str → Option Value} {base : Heap} (T : Txt K mg) (G__law_take : Ok P w K mg base "_law_take" 1 ["_law_row", "_law_many"] C_take) : Ok P w K mg base "_law_lines" 2 ["_law_row"] C__law_lines := by
  obtain ⟨f, fd, F, hm, b⟩ := T.d__law_lines
  exact ⟨f, fd, hm, F.kp, b, okDQ (W := W__law_lines) (k := 1) F sc__law_lines (fun cdv A outer s H E hr => jss_cons (js_set 1 sc__law_lines.nd rfl (Or.inl rfl) (je_lstM (ja_cons (je_str) (ja_cons (je_str) (ja_nil))))) (jss_cons (js_for passD rfl (ji_range1 (by rfl) T.n_range (ja_cons (je_callO G__law_take takesD (hr.mono (by decide)) (by rfl) (ja_cons (je_var 0) (ja_cons (je_int) (ja_nil))) 2) (ja_nil))) (jg_name (js := [2]) 2 (by decide) sc__law_lines.nd rfl (Or.inl rfl)) (jss_cons (js_expr (je_mL PySem.F.slot_list_append PySem.F.type_list_append mt_append mtl_app (je_var 1) (ja_cons (je_str) (ja_nil)))) (jss_cons (js_for passD rfl (ji_range1 (by rfl) T.n_range (ja_cons (je_callO G__law_take takesD (hr.mono (by decide)) (by rfl) (ja_cons (je_var 0) (ja_cons (je_int) (ja_nil))) 2) (ja_nil))) (jg_name (js := [3]) 3 (by decide) sc__law_lines.nd rfl (Or.inl rfl)) (jss_one (js_expr (je_mL PySem.F.slot_list_append PySem.F.type_list_append mt_append mtl_app (je_var 1) (ja_cons (je_op op_addAll opl_add (je_op op_addAll opl_add (je_str) (je_callTy call_str_int cbl_str (by rfl) T.n_str bt_str (ja_cons (je_callO G__law_take takesD (hr.mono (by decide)) (by rfl) (ja_cons (je_var 0) (ja_cons (je_int) (ja_nil))) 2) (ja_nil)))) (je_str)) (ja_nil)))))) (jss_one (js_expr (je_mL PySem.F.slot_list_append PySem.F.type_list_append mt_append mtl_app (je_var 1) (ja_cons (je_op op_addAll opl_add (je_str) (je_callTy call_str_int cbl_str (by rfl) T.n_str bt_str (ja_cons (je_callO G__law_take takesD (hr.mono (by decide)) (by rfl) (ja_cons (je_var 0) (ja_cons (je_int) (ja_nil))) 2) (ja_nil)))) (ja_nil)))))))) (jss_one (js_ret (je_op op_addAll opl_add (je_var 1) (je_lst (ja_cons (je_str) (ja_cons (je_str) (ja_nil))))))))) rd__law_lines⟩
theorem ok__law_raised {P : Program} {w : World} {K : PySem.W.Frag} {mg : Str → Option Value} {base : Heap} (T : Txt K mg) (G_read_talk : Ok P w K mg base "read_talk" 6 ["text"] C_read_talk__e) : Ok P w K mg base "_law_raised" 7 ["_law_lines_here"] C__law_raised := by
  obtain ⟨f, fd, F, hm, b⟩ := T.d__law_raised
  exact ⟨f, fd, hm, F.kp, b, okD (W := W__law_raised) (k := 6) F sc__law_raised (fun cdv A outer s H E hr => jss_cons (js_try_as (B := "LayeraskError") (L := [("TextError", true)]) 1 sc__law_raised.nd rfl takesD (by rfl) T.g_LayeraskError T.x_LayeraskError (fun _ _ _ tk1 hp1 => jss_one (js_expr (je_callO G_read_talk tk1 (hr.mono (by decide)) (by rfl) (ja_cons (je_mS PySem.F.slot_str_join PySem.F.type_str_join mt_join mts_join (je_str) (je_var 0)) (ja_nil)) 1))) (fun a1 _ c1 d1 _ hl1 hz1 hf1 => jss_cons (js_if (PW.pt (jw_and (jt_val (je_isE (B := "TextError") (L := [("TextError", true)]) (T.s_LayeraskError c1 _ hl1).1 T.x_TextError hz1 hf1 (by rfl) T.n_isinstance (by rfl) T.g_TextError (je_var 1))) (jw_and1 (jt_val (je_isEV (B := "ValueError") (L := [("TextError", true)]) (T.s_LayeraskError c1 _ hl1).1 T.v_ValueError hz1 hf1 (by rfl) T.n_isinstance (by rfl) T.n_ValueError (by rfl) (je_var 1)))))) (jss_one (js_ret (je_xf (f := "line") (T.s_LayeraskError c1 _ hl1).1 ((T.s_LayeraskError c1 _ hl1).2 "line" (by decide)) hz1 hf1 (je_var 1)))) (jss_nil)) (jss_one (js_ret (je_op op_sub opl_sub (je_int) (je_int)))))) (jss_one (js_ret (je_int)))) rd__law_raised⟩
theorem ok__law_fits {P : Program} {w : World} {K : PySem.W.Frag} {mg : Str → Option Value} {base : Heap} (T : Txt K mg) : Ok P w K mg base "_law_fits" 1 ["_law_lines_here", "_law_at"] C__law_fits := by
  obtain ⟨f, fd, F, hm, b⟩ := T.d__law_fits
  exact ⟨f, fd, hm, F.kp, b, okD (W := W__law_fits) (k := 0) F sc__law_fits (fun cdv A outer s H E hr => jss_cons (js_set 2 sc__law_fits.nd rfl (Or.inl rfl) (je_ix (je_mS PySem.F.slot_str_split PySem.F.type_str_split mt_split mts_split (je_ix (je_var 0) (je_var 1)) (je_str)) (je_int))) (jss_cons (js_if (jt_cmp op_lt opl_lt (je_var 1) (je_int) (nomark _)) (jss_one (js_ret (je_cmp (op_eqD hr.units) opl_eq (je_var 2) (je_ix (je_lst (ja_cons (je_str) (ja_cons (je_str) (ja_nil)))) (je_var 1)) (nomark _)))) (jss_nil)) (jss_cons (js_set 3 sc__law_fits.nd rfl (Or.inl rfl) (je_ix (je_mS PySem.F.slot_str_split PySem.F.type_str_split mt_split mts_split (je_ix (je_var 0) (je_op op_sub opl_sub (je_var 1) (je_int))) (je_str)) (je_int))) (jss_cons (js_if (jt_cmp (op_eqD hr.units) opl_eq (je_var 3) (je_str) (nomark _)) (jss_one (js_ret (je_cmp (op_eqD hr.units) opl_eq (je_ix (je_var 0) (je_var 1)) (je_str) (nomark _)))) (jss_nil)) (jss_cons (js_if (PW.pt (jw_or (jt_cmp (op_eqD hr.units) opl_eq (je_var 3) (je_str) (nomark _)) (jw_or1 (jt_cmp (op_eqD hr.units) opl_eq (je_var 3) (je_str) (nomark _))))) (jss_one (js_ret (je_or (je_cmp (op_eqD hr.units) opl_eq (je_ix (je_var 0) (je_var 1)) (je_str) (nomark _)) (je_one (je_cmp (op_eqD hr.units) opl_eq (je_ix (je_var 0) (je_var 1)) (je_str) (nomark _)))))) (jss_nil)) (jss_one (js_ret (je_and (je_or (je_cmp (op_eqD hr.units) opl_eq (je_var 3) (je_str) (nomark _)) (je_one (je_cmp (op_eqD hr.units) opl_eq (je_var 3) (je_str) (nomark _)))) (je_one (je_or (je_cmp (op_eqD hr.units) opl_eq (je_var 2) (je_str) (nomark _)) (je_one (je_cmp (op_eqD hr.units) opl_eq (je_var 2) (je_str) (nomark _))))))))))))) rd__law_fits⟩
theorem ok__law_due {P : Program} {w : World} {K : PySem.W.Frag} {mg : Str → Option Value} {base : Heap} (T : Txt K mg) (G__law_fits : Ok P w K mg base "_law_fits" 1 ["_law_lines_here", "_law_at"] C__law_fits) : Ok P w K mg base "_law_due" 2 ["_law_lines_here"] C__law_due := by
  obtain ⟨f, fd, F, hm, b⟩ := T.d__law_due
  exact ⟨f, fd, hm, F.kp, b, okD (W := W__law_due) (k := 1) F sc__law_due (fun cdv A outer s H E hr => jss_cons (js_for passD rfl (ji_range1 (by rfl) T.n_range (ja_cons (je_callB call_len cbl_len (by rfl) T.n_len bt_len (ja_cons (je_var 0) (ja_nil))) (ja_nil))) (jg_name (js := [1]) 1 (by decide) sc__law_due.nd rfl (Or.inl rfl)) (jss_one (js_if (jt_not (jt_val (je_callO G__law_fits takesD (hr.mono (by decide)) (by rfl) (ja_cons (je_var 0) (ja_cons (je_var 1) (ja_nil))) 2))) (jss_one (js_ret (je_op op_addAll opl_add (je_var 1) (je_int)))) (jss_nil)))) (jss_cons (js_if (jt_cmp (op_eqD hr.units) opl_eq (je_ix (je_var 0) (je_un un_neg unl_neg (je_int))) (je_str) (nomark _)) (jss_one (js_ret (je_int))) (jss_nil)) (jss_one (js_ret (je_op op_addAll opl_add (je_callB call_len cbl_len (by rfl) T.n_len bt_len (ja_cons (je_var 0) (ja_nil))) (je_int)))))) rd__law_due⟩
theorem ok_law {P : Program} {w : World} {K : PySem.W.Frag} {mg : Str → Option Value} {base : Heap} {f : Addr} {fd : FuncData} (T : Txt K mg) (G__law_stream : Ok P w K mg base "_law_stream" 1 ["_law_script"] C_stream) (G__law_lines : Ok P w K mg base "_law_lines" 2 ["_law_row"] C__law_lines) (G__law_take : Ok P w K mg base "_law_take" 1 ["_law_row", "_law_many"] C_take) (G__law_raised : Ok P w K mg base "_law_raised" 7 ["_law_lines_here"] C__law_raised) (G__law_due : Ok P w K mg base "_law_due" 2 ["_law_lines_here"] C__law_due) (F : Fun K "law" "law" s_law f fd) : FnOk P w K mg base (L2.CX P w) 8 f fd ["_law_script"] (spOf K 1 (CLaw ClawT)) :=
  okD (W := W_law) (k := 7) F sc_law (fun cdv A outer s H E hr => jss_cons (js_set 1 sc_law.nd rfl (Or.inl rfl) (je_callO G__law_stream takesD (hr.mono (by decide)) (by rfl) (ja_cons (je_var 0) (ja_nil)) 1)) (jss_cons (js_set 2 sc_law.nd rfl (Or.inl rfl) (je_callO G__law_lines takesD (hr.mono (by decide)) (by rfl) (ja_cons (je_var 1) (ja_nil)) 1)) (jss_cons (js_if (jt_cmp (op_neD hr.units) opl_ne (je_callO G__law_raised takesD (hr.mono (by decide)) (by rfl) (ja_cons (je_var 2) (ja_nil)) 1) (je_int) (nomark _)) (jss_one (js_ret (je_bl))) (jss_nil)) (jss_cons (js_set 3 sc_law.nd rfl (Or.inl rfl) (je_callO G__law_take takesD (hr.mono (by decide)) (by rfl) (ja_cons (je_var 1) (ja_cons (je_callB call_len cbl_len (by rfl) T.n_len bt_len (ja_cons (je_var 2) (ja_nil))) (ja_nil))) 2)) (jss_cons (js_set 4 sc_law.nd rfl (Or.inl rfl) (je_callO G__law_take takesD (hr.mono (by decide)) (by rfl) (ja_cons (je_var 1) (ja_cons (je_int) (ja_nil))) 2)) (jss_cons (js_if (jt_cmp (op_eqD hr.units) opl_eq (je_var 4) (je_int) (nomark _)) (jss_cons (js_set 5 sc_law.nd rfl (Or.inl rfl) (je_lst (ja_cons (je_str) (ja_cons (je_str) (ja_cons (je_str) (ja_cons (je_str) (ja_cons (je_str) (ja_cons (je_str) (ja_cons (je_str) (ja_cons (je_str) (ja_cons (je_str) (ja_cons (je_str) (ja_cons (je_str) (ja_cons (je_str) (ja_nil))))))))))))))) (jss_cons (js_set 6 sc_law.nd rfl (Or.inl rfl) (je_ix (je_var 5) (je_callO G__law_take takesD (hr.mono (by decide)) (by rfl) (ja_cons (je_var 1) (ja_cons (je_int) (ja_nil))) 2))) (jss_cons (js_if (PW.pt (jw_and (jt_cmp (op_eqD hr.units) opl_eq (je_var 6) (je_str) (nomark _)) (jw_and1 (PW.pt (jw_or (jt_cmp (op_eqD hr.units) opl_eq (je_var 3) (je_op op_sub opl_sub (je_callB call_len cbl_len (by rfl) T.n_len bt_len (ja_cons (je_var 2) (ja_nil))) (je_int)) (nomark _)) (jw_or1 (jt_cmp (op_eqD hr.units) opl_eq (je_ix (je_var 2) (je_var 3)) (je_str) (nomark _)))))))) (jss_one (js_ret (je_bl))) (jss_nil)) (jss_one (js_ret (je_cmp (op_eqD hr.units) opl_eq (je_callO G__law_raised takesD (hr.mono (by decide)) (by rfl) (ja_cons (je_op op_addAll opl_add (je_op op_addAll opl_add (je_sl (je_var 2) (jo_none) (jo_some (je_var 3))) (je_lst (ja_cons (je_var 6) (ja_nil)))) (je_sl (je_var 2) (jo_some (je_op op_addAll opl_add (je_var 3) (je_int))) (jo_none))) (ja_nil)) 1) (je_op op_addAll opl_add (je_var 3) (je_int)) (nomark _))))))) (jss_nil)) (jss_cons (js_if (jt_cmp (op_eqD hr.units) opl_eq (je_var 4) (je_int) (nomark _)) (jss_one (js_ret (je_ifExp (jt_cmp op_gt opl_gt (je_var 3) (je_int) (nomark _)) (je_cmp (op_eqD hr.units) opl_eq (je_callO G__law_raised takesD (hr.mono (by decide)) (by rfl) (ja_cons (je_sl (je_var 2) (jo_none) (jo_some (je_var 3))) (ja_nil)) 1) (je_callB (call_max2 rfl) cbl_max2 (by rfl) T.n_max bt_max (ja_cons (je_int) (ja_cons (je_callO G__law_due takesD (hr.mono (by decide)) (by rfl) (ja_cons (je_sl (je_var 2) (jo_none) (jo_some (je_var 3))) (ja_nil)) 1) (ja_nil)))) (nomark _)) (je_cmp (op_eqD hr.units) opl_eq (je_callO G__law_raised takesD (hr.mono (by decide)) (by rfl) (ja_cons (je_lst (ja_cons (je_str) (ja_nil))) (ja_nil)) 1) (je_int) (nomark _))))) (jss_nil)) (jss_cons (js_if (jt_cmp (op_eqD hr.units) opl_eq (je_var 4) (je_int) (nomark _)) (jss_one (js_ret (je_cmp (op_eqD hr.units) opl_eq (je_callO G__law_raised takesD (hr.mono (by decide)) (by rfl) (ja_cons (je_op op_addAll opl_add (je_sl (je_var 2) (jo_none) (jo_some (je_var 3))) (je_sl (je_var 2) (jo_some (je_op op_addAll opl_add (je_var 3) (je_int))) (jo_none))) (ja_nil)) 1) (je_callO G__law_due takesD (hr.mono (by decide)) (by rfl) (ja_cons (je_op op_addAll opl_add (je_sl (je_var 2) (jo_none) (jo_some (je_var 3))) (je_sl (je_var 2) (jo_some (je_op op_addAll opl_add (je_var 3) (je_int))) (jo_none))) (ja_nil)) 1) (nomark _)))) (jss_nil)) (jss_cons (js_if (jt_cmp (op_eqD hr.units) opl_eq (je_var 4) (je_int) (nomark _)) (jss_cons (js_set 7 sc_law.nd rfl (Or.inl rfl) (je_op op_addAll opl_add (je_op op_addAll opl_add (je_sl (je_var 2) (jo_none) (jo_some (je_var 3))) (je_lst (ja_cons (je_ix (je_lst (ja_cons (je_str) (ja_cons (je_str) (ja_cons (je_str) (ja_cons (je_str) (ja_cons (je_str) (ja_nil))))))) (je_callO G__law_take takesD (hr.mono (by decide)) (by rfl) (ja_cons (je_var 1) (ja_cons (je_int) (ja_nil))) 2)) (ja_nil)))) (je_sl (je_var 2) (jo_some (je_var 3)) (jo_none)))) (jss_one (js_ret (je_cmp (op_eqD hr.units) opl_eq (je_callO G__law_raised takesD (hr.mono (by decide)) (by rfl) (ja_cons (je_var 7) (ja_nil)) 1) (je_callO G__law_due takesD (hr.mono (by decide)) (by rfl) (ja_cons (je_var 7) (ja_nil)) 1) (nomark _))))) (jss_nil)) (jss_one (js_ret (je_cmp (op_eqD hr.units) opl_eq (je_callO G__law_raised takesD (hr.mono (by decide)) (by rfl) (ja_cons (je_op op_addAll opl_add (je_var 2) (je_op op_rep opl_rep (je_lst (ja_cons (je_str) (ja_nil))) (je_int))) (ja_nil)) 1) (je_int) (nomark _))))))))))))) rd_law
theorem all_ok {P : Program} {w : World} {K : PySem.W.Frag} {mg : Str → Option Value} {base : Heap} {f : Addr} {fd : FuncData} (T : Txt K mg) (F : Fun K "law" "law" s_law f fd) : FnOk P w K mg base (L2.CX P w) 8 f fd ["_law_script"] (spOf K 1 (CLaw ClawT)) := by
  have G_TextError := ok_TextError (P := P) (w := w) (base := base) T
  have G__law_stream := ok__law_stream (P := P) (w := w) (base := base) T
  have G__law_take := ok__law_take (P := P) (w := w) (base := base) T
  have G__law_lines := ok__law_lines (P := P) (w := w) (base := base) T G__law_take
  have G_number_of := ok_number_of (P := P) (w := w) (base := base) T G_TextError
  have G_numbers_of := ok_numbers_of (P := P) (w := w) (base := base) T G_TextError G_number_of
  have G_read_layer := ok_read_layer (P := P) (w := w) (base := base) T G_TextError G_numbers_of
  have G_last_good := ok_last_good (P := P) (w := w) (base := base) T
  have G_read_talk := ok_read_talk (P := P) (w := w) (base := base) T G_TextError G_numbers_of G_read_layer G_last_good
  have G__law_raised := ok__law_raised (P := P) (w := w) (base := base) T G_read_talk
  have G__law_fits := ok__law_fits (P := P) (w := w) (base := base) T
  have G__law_due := ok__law_due (P := P) (w := w) (base := base) T G__law_fits
  exact ok_law T G__law_stream G__law_lines G__law_take G__law_raised G__law_due F
theorem law_fin {l : PySem.W.OpenLaw} {w : World} {K : PySem.W.Frag} {mg : Str → Option Value} {fa : Addr} (T : Txt K mg) (hfa : mg "law" = some (.ref fa)) : ∃ fd : FuncData, (∀ (s : Shared) (v : Value), BindsTo s fd ⟨[v], []⟩ [("_law_script", v)]) ∧
    ∀ base : Heap, K.In base → base.Ns mainGlobals mg → FnOk l.prog w K mg base (L2.CX l.prog w) 8 fa fd ["_law_script"] (spOf K 1 (CLaw ClawT)) := by
  obtain ⟨f, fd, F, hm, b⟩ := T.d_law
  have e := hfa.symm.trans hm
  cases e
  exact ⟨fd, fun s v => .of_eq (b [v] rfl), fun base _ _ => all_ok T F⟩
end K38
open PySem PySem.W PyProof.Rows
open PySem PySem.W PySem.Calls PyProof.Rows
theorem PySem.Challenge.cw_layerask_k38_texts_that_are_no_conversat_holds : PySem.Challenge.rw_layerask_k38_texts_that_are_no_conversat.Holds := by
  refine K38.pre ?hc
  case hc =>
    refine Dl.walk_DE (l := PySem.Challenge.rw_layerask_k38_texts_that_are_no_conversat) (k := 8) (x := "_law_script") rfl rfl ⟨rfl, by decide, by decide⟩ ?F
    case F =>
      intro w mg fa h Y G hmg0
      obtain ⟨K, KX, c⟩ := Y
      have hmg : mg ("law" : PySem.Str) = some (.ref fa) := by
        have e : (HandSHeadRun.topDef (PySem.W.OpenLaw.row PySem.Challenge.rw_layerask_k38_texts_that_are_no_conversat).prog 18).name = ("law" : PySem.Str) := by kernel_rfl
        rw [← e]
        exact hmg0
      obtain ⟨fd, hb, hF⟩ := K38.law_fin (l := PySem.Challenge.rw_layerask_k38_texts_that_are_no_conversat) (w := w) (K38.he_txt KX G c) hmg
      exact ⟨K, fd, KX, hb, hF⟩
