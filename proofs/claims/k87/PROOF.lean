import PyProof.Rows.All
import Wide.All
import OpenK.AllK
import Wide.FinOn
import HandS.ForMost
import HandS.ForExc
import HandS.Wide
import HandS.EndBits
import HandS.ExcInit
import HandS.IsInst
import HandS.ExcField
import HandS.ExcIs
import KE.KExcIs
import HandS.TryMany
import HandS.Deep
import HandS.Style
import HandS.CallSlots
import HandS.Head0
import HandS.Head1
import HandS.Head2
import HandS.HeadEnd
import HandS.HeadHook1
import KE.GoesMore
import KE.GoesEnum
import HandS.NoneIn
import PyProof.MaxThree
import KE.KTupSum
import PySem.Challenge.RW_layerask_k87_whole_false_products_are_bl
set_option Elab.async false
set_option linter.all false
set_option maxRecDepth 100000
set_option maxHeartbeats 4000000

/-! Data level: values as trees, a store of changing objects, readings lifted to them. -/
namespace Dl
open PySem L2

/-- where the class of this name stands -/
def kcl (K : PySem.W.Frag) (c : String) : Addr := match PySem.W.nsIn K mainGlobals (PySem.Str.ofString c) with
  | some (some (.ref C)) => C
  | _ => 0
theorem kcl_of {K : PySem.W.Frag} {c : String} {C : Addr} (h : PySem.W.nsIn K mainGlobals (PySem.Str.ofString c) = some (some (.ref C))) : kcl K c = C := by
  unfold kcl
  rw [h]

theorem ofString_inj {a b : String} : PySem.Str.ofString a = PySem.Str.ofString b ↔ a = b := by
  constructor
  · intro h
    rw [PySem.Str.ofString_eq_toList, PySem.Str.ofString_eq_toList] at h
    have h1 := congrArg (fun s => s.cps.toList) h
    have h2 : a.toList.map Char.toNat = b.toList.map Char.toNat := by simpa using h1
    have h3 : a.toList = b.toList := by
      refine List.map_inj_right (f := Char.toNat) ?_ |>.mp h2
      intro x y e
      exact Char.ext (UInt32.toNat_inj.mp e)
    exact String.ext h3
  · intro h; rw [h]
theorem ofString_beq {a b : String} : (PySem.Str.ofString a == PySem.Str.ofString b) = (a == b) := by
  rw [Bool.eq_iff_iff, beq_iff_eq, beq_iff_eq]
  exact ofString_inj

inductive D where
  | non | bl (b : Bool) | int (i : Int) | str (x : Str) | ty (n : String) | cls (c : String)
  | lst (ds : List D) | tup (ds : List D) | rol (ds : List D) | rot (ds : List D)
  | hnd (k : Nat) | st (k : Nat)
  | exc (a d : Addr) (c : String) (fs : List (String × D))

/-- the drawing state of a law: where it stands (k 0: a list of a list of ints and an int; k 1: a list of ints, the first a place in it) -/
structure LS where
  A : Addr
  c : Addr
  k : Nat
def LS.fp (S : LS) : List Addr := if S.k = 0 then [S.A, S.c] else [S.A]
def LS.ok (S : LS) (H : Hp) : Prop := if S.k = 0 then ∃ (cells : List Int) (seed : Int), H S.A = some (.lst [.ref S.c, .int seed]) ∧ H S.c = some (.lst (cells.map V.int))
  else ∃ (j : Int) (ns : List Int), 1 ≤ j ∧ H S.A = some (.lst ((j :: ns).map V.int))
theorem LS.fr (S : LS) (H H' : Hp) (e : ∀ a ∈ S.fp, H' a = H a) (h : S.ok H) : S.ok H' := by
  unfold LS.ok at *
  unfold LS.fp at e
  by_cases z : S.k = 0
  · rw [if_pos z] at *
    obtain ⟨cells, seed, h1, h2⟩ := h
    exact ⟨cells, seed, by rw [e _ (by simp)]; exact h1, by rw [e _ (by simp)]; exact h2⟩
  · rw [if_neg z] at *
    obtain ⟨j, ns, h0, h1⟩ := h
    exact ⟨j, ns, h0, by rw [e _ (by simp)]; exact h1⟩
/-- what changes -/
inductive MO where
  | lst (ds : List D)
  | ins (C : String) (fs : List (String × D))
  | dead
/-- s: 0 no drawing state yet, 1 there is one, 2 it is opened -/
structure MM where
  M : List MO
  s : Nat
structure Wd where
  F : Hp
  th : List Addr
  S : Option LS

section
variable (K : PySem.W.Frag) (w : Wd)
mutual
def Rep : D → V → Prop
  | .non, v => v = .non
  | .bl b, v => v = .bl b
  | .int i, v => v = .int i
  | .str x, v => v = .str x
  | .ty n, v => v = .ty n
  | .cls c, v => v = .ref (kcl K c)
  | .lst ds, v => ∃ a xs, v = .ref a ∧ w.F a = some (.lst xs) ∧ RepAll ds xs
  | .tup ds, v => ∃ a xs, v = .ref a ∧ w.F a = some (.tup xs) ∧ RepAll ds xs
  | .rol ds, v => ∃ a xs, v = .ref a ∧ SqL K w.F a xs ∧ RepAll ds xs
  | .rot ds, v => ∃ a xs, v = .ref a ∧ SqT K w.F a xs ∧ RepAll ds xs
  | .hnd k, v => ∃ a, v = .ref a ∧ w.th[k]? = some a
  | .st k, v => ∃ S, w.S = some S ∧ S.k = k ∧ v = .ref S.A
  | .exc a d c fs, v => v = .ref a ∧ ∃ xs, w.F d = some (.xd xs) ∧ RepF fs xs
def RepAll : List D → List V → Prop
  | [], vs => vs = []
  | d :: ds, vs => ∃ v r, vs = v :: r ∧ Rep d v ∧ RepAll ds r
def RepF : List (String × D) → List (Str × V) → Prop
  | [], vs => vs = []
  | (f, d) :: ds, vs => ∃ v r, vs = (PySem.Str.ofString f, v) :: r ∧ Rep d v ∧ RepF ds r
end
end

/-- later worlds -/
structure Wd.le (w w' : Wd) : Prop where
  F : ∀ a o, w.F a = some o → w'.F a = some o
  th : ∀ (k : Nat) a, w.th[k]? = some a → w'.th[k]? = some a
  S : ∀ S, w.S = some S → w'.S = some S
theorem Wd.le.refl (w : Wd) : w.le w := ⟨fun _ _ h => h, fun _ _ h => h, fun _ h => h⟩
theorem Wd.le.trans {a b c : Wd} (h : a.le b) (g : b.le c) : a.le c := ⟨fun x o e => g.F x o (h.F x o e), fun k x e => g.th k x (h.th k x e), fun S e => g.S S (h.S S e)⟩

theorem sql_mono {K : PySem.W.Frag} {H H' : Hp} {a : Addr} {xs : List V} (e : ∀ a o, H a = some o → H' a = some o) (h : SqL K H a xs) : SqL K H' a xs := by
  rcases h with (h | ⟨o, h⟩) | h
  · exact .inl (.inl (e _ _ h))
  · exact .inl (.inr ⟨o, e _ _ h⟩)
  · exact .inr h
theorem sqt_mono {K : PySem.W.Frag} {H H' : Hp} {a : Addr} {xs : List V} (e : ∀ a o, H a = some o → H' a = some o) (h : SqT K H a xs) : SqT K H' a xs := by
  rcases h with (h | ⟨o, h⟩) | h
  · exact .inl (.inl (e _ _ h))
  · exact .inl (.inr ⟨o, e _ _ h⟩)
  · exact .inr h
section
variable {K : PySem.W.Frag} {w w' : Wd}
mutual
theorem Rep.mono (l : w.le w') : ∀ (d : D) (v : V), Rep K w d v → Rep K w' d v
  | .non, _, h => h
  | .bl _, _, h => h
  | .int _, _, h => h
  | .str _, _, h => h
  | .ty _, _, h => h
  | .cls _, _, h => h
  | .lst ds, _, h => by
    obtain ⟨a, xs, e, q, r⟩ := h
    exact ⟨a, xs, e, l.F _ _ q, RepAll.mono l ds xs r⟩
  | .tup ds, _, h => by
    obtain ⟨a, xs, e, q, r⟩ := h
    exact ⟨a, xs, e, l.F _ _ q, RepAll.mono l ds xs r⟩
  | .rol ds, _, h => by
    obtain ⟨a, xs, e, q, r⟩ := h
    exact ⟨a, xs, e, sql_mono l.F q, RepAll.mono l ds xs r⟩
  | .rot ds, _, h => by
    obtain ⟨a, xs, e, q, r⟩ := h
    exact ⟨a, xs, e, sqt_mono l.F q, RepAll.mono l ds xs r⟩
  | .hnd k, _, h => by
    obtain ⟨a, e, q⟩ := h
    exact ⟨a, e, l.th _ _ q⟩
  | .st _, _, h => by
    obtain ⟨S, e, q⟩ := h
    exact ⟨S, l.S _ e, q⟩
  | .exc a d c fs, _, h => by
    obtain ⟨e, xs, q, r⟩ := h
    exact ⟨e, xs, l.F _ _ q, RepF.mono l fs xs r⟩
theorem RepAll.mono (l : w.le w') : ∀ (ds : List D) (vs : List V), RepAll K w ds vs → RepAll K w' ds vs
  | [], _, h => h
  | d :: ds, _, h => by
    obtain ⟨v, r, e, a, b⟩ := h
    exact ⟨v, r, e, Rep.mono l d v a, RepAll.mono l ds r b⟩
theorem RepF.mono (l : w.le w') : ∀ (ds : List (String × D)) (vs : List (Str × V)), RepF K w ds vs → RepF K w' ds vs
  | [], _, h => h
  | (f, d) :: ds, _, h => by
    obtain ⟨v, r, e, a, b⟩ := h
    exact ⟨v, r, e, Rep.mono l d v a, RepF.mono l ds r b⟩
end
theorem RepAll.length : ∀ {ds : List D} {vs : List V}, RepAll K w ds vs → vs.length = ds.length
  | [], _, h => by
    have e : _ = [] := h
    subst e; rfl
  | d :: ds, _, h => by
    obtain ⟨v, r, e, a, b⟩ := h
    subst e
    rw [List.length_cons, List.length_cons, RepAll.length b]
theorem RepAll.get : ∀ {ds : List D} {vs : List V} {i : Nat} {d : D}, RepAll K w ds vs → ds[i]? = some d → ∃ v, vs[i]? = some v ∧ Rep K w d v
  | [], _, _, _, _, h => by simp at h
  | d :: ds, _, i, d', h, e => by
    obtain ⟨v, r, rfl, a, b⟩ := h
    cases i with
    | zero => simp at e; subst e; exact ⟨v, rfl, a⟩
    | succ i => exact RepAll.get (i := i) b (by simpa using e)
theorem RepAll.append : ∀ {ds es : List D} {vs us : List V}, RepAll K w ds vs → RepAll K w es us → RepAll K w (ds ++ es) (vs ++ us)
  | [], _, _, _, h, g => by
    have q : _ = [] := h
    subst q; exact g
  | d :: ds, _, _, _, h, g => by
    obtain ⟨v, r, rfl, a, b⟩ := h
    exact ⟨v, _, rfl, a, RepAll.append b g⟩
theorem RepAll.set : ∀ {ds : List D} {vs : List V} {d : D} {v : V} (i : Nat), RepAll K w ds vs → Rep K w d v → RepAll K w (ds.set i d) (vs.set i v)
  | [], _, _, _, _, h, _ => by
    have q : _ = [] := h
    subst q; exact rfl
  | d :: ds, _, d', v', i, h, g => by
    obtain ⟨v, r, rfl, a, b⟩ := h
    cases i with
    | zero => exact ⟨v', r, rfl, g, b⟩
    | succ i => exact ⟨v, _, rfl, a, RepAll.set i b g⟩
theorem RepAll.take : ∀ {ds : List D} {vs : List V} (n : Nat), RepAll K w ds vs → RepAll K w (ds.take n) (vs.take n)
  | [], _, n, h => by
    have q : _ = [] := h
    subst q; simp; exact rfl
  | d :: ds, _, n, h => by
    obtain ⟨v, r, rfl, a, b⟩ := h
    cases n with
    | zero => exact rfl
    | succ n => exact ⟨v, _, rfl, a, RepAll.take n b⟩
theorem RepAll.drop : ∀ {ds : List D} {vs : List V} (n : Nat), RepAll K w ds vs → RepAll K w (ds.drop n) (vs.drop n)
  | [], _, n, h => by
    have q : _ = [] := h
    subst q; simp; exact rfl
  | d :: ds, _, n, h => by
    obtain ⟨v, r, rfl, a, b⟩ := h
    cases n with
    | zero => exact ⟨v, _, rfl, a, b⟩
    | succ n => exact RepAll.drop n b
theorem RepAll.reverse {ds : List D} {vs : List V} (h : RepAll K w ds vs) : RepAll K w ds.reverse vs.reverse := by
  induction ds generalizing vs with
  | nil =>
    have q : vs = [] := h
    subst q; exact rfl
  | cons d ds ih =>
    obtain ⟨v, r, rfl, a, b⟩ := h
    rw [List.reverse_cons, List.reverse_cons]
    exact RepAll.append (ih b) ⟨v, [], rfl, a, rfl⟩
theorem RepF.look : ∀ {ds : List (String × D)} {vs : List (Str × V)} {f : String} {d : D}, RepF K w ds vs → ds.lookup f = some d → ∃ v, vs.lookup (PySem.Str.ofString f) = some v ∧ Rep K w d v
  | [], _, _, _, _, h => by simp at h
  | (g, d) :: ds, _, f, d', h, e => by
    obtain ⟨v, r, rfl, a, b⟩ := h
    rw [List.lookup_cons] at e
    rw [List.lookup_cons, ofString_beq]
    cases hb : f == g with
    | true => rw [hb] at e; simp at e; subst e; exact ⟨v, rfl, a⟩
    | false => rw [hb] at e; exact RepF.look b e
theorem RepF.none : ∀ {ds : List (String × D)} {vs : List (Str × V)} {f : String}, RepF K w ds vs → ds.lookup f = Option.none → vs.lookup (PySem.Str.ofString f) = Option.none
  | [], _, _, h, _ => by
    have q : _ = [] := h
    subst q; rfl
  | (g, d) :: ds, _, f, h, e => by
    obtain ⟨v, r, rfl, a, b⟩ := h
    rw [List.lookup_cons] at e
    rw [List.lookup_cons, ofString_beq]
    cases hb : f == g with
    | true => rw [hb] at e; simp at e
    | false => rw [hb] at e; exact RepF.none b e
theorem RepF.length : ∀ {ds : List (String × D)} {vs : List (Str × V)}, RepF K w ds vs → vs.length = ds.length
  | [], _, h => by
    have e : _ = [] := h
    subst e; rfl
  | (f, d) :: ds, _, h => by
    obtain ⟨v, r, e, a, b⟩ := h
    subst e
    rw [List.length_cons, List.length_cons, RepF.length b]
def putD (f : String) (v : D) : List (String × D) → List (String × D)
  | [] => [(f, v)]
  | (g, x) :: r => if g = f then (g, v) :: r else (g, x) :: putD f v r
theorem RepF.put {f : String} {d : D} {v : V} (g : Rep K w d v) : ∀ {ds : List (String × D)} {vs : List (Str × V)}, RepF K w ds vs → RepF K w (putD f d ds) (putF (PySem.Str.ofString f) v vs)
  | [], _, h => by
    have q : _ = [] := h
    subst q; exact ⟨v, [], rfl, g, rfl⟩
  | (k, d') :: ds, _, h => by
    obtain ⟨u, r, rfl, a, b⟩ := h
    unfold putD putF
    by_cases e : k = f
    · rw [if_pos e, if_pos (ofString_inj.mpr e)]; exact ⟨v, r, by rw [e], g, b⟩
    · rw [if_neg e, if_neg (fun z => e (ofString_inj.mp z))]; exact ⟨u, _, rfl, a, RepF.put g b⟩
end

def ORep (K : PySem.W.Frag) (w : Wd) (H : Hp) (a : Addr) : MO → Prop
  | .lst ds => ∃ xs, H a = some (.lst xs) ∧ RepAll K w ds xs
  | .ins C fs => ∃ dx vs, H a = some (.ins (kcl K C) dx vs) ∧ RepF K w fs vs
  | .dead => ∃ o, H a = some o
theorem ORep.mono {K : PySem.W.Frag} {w w' : Wd} {H H' : Hp} {a : Addr} (l : w.le w') (e : H' a = H a) : ∀ {o : MO}, ORep K w H a o → ORep K w' H' a o
  | .lst ds, h => by
    obtain ⟨xs, q, r⟩ := h
    exact ⟨xs, e.trans q, RepAll.mono l _ _ r⟩
  | .ins C fs, h => by
    obtain ⟨dx, vs, q, r⟩ := h
    exact ⟨dx, vs, e.trans q, RepF.mono l _ _ r⟩
  | .dead, h => by
    obtain ⟨o, q⟩ := h
    exact ⟨o, e.trans q⟩
theorem ORep.there {K : PySem.W.Frag} {w : Wd} {H : Hp} {a : Addr} : ∀ {o : MO}, ORep K w H a o → ∃ o, H a = Option.some o
  | .lst _, ⟨_, q, _⟩ => ⟨_, q⟩
  | .ins _ _, ⟨_, _, q, _⟩ => ⟨_, q⟩
  | .dead, h => h
/-- the heap bears the world and the store -/
structure HRep (K : PySem.W.Frag) (w : Wd) (m : MM) (H : Hp) : Prop where
  ext : ∀ a o, w.F a = some o → H a = some o
  len : w.th.length = m.M.length
  nd : w.th.Nodup
  obj : ∀ (k : Nat) a o, w.th[k]? = some a → m.M[k]? = some o → ORep K w H a o
  thF : ∀ (k : Nat) a o, w.th[k]? = some a → m.M[k]? = some o → o ≠ .dead → w.F a = none
  ls : m.s = 1 → ∀ S, w.S = some S → S.ok H ∧ ∀ a ∈ S.fp, w.F a = none ∧ a ∉ w.th ∧ ∃ o, H a = some o
  flag : (m.s = 0 → w.S = none) ∧ (m.s = 1 → w.S.isSome = true)

abbrev Env := List (Option D)
abbrev XP := String → List (String × D) → MM → Prop
abbrev DE := Env → MM → (D → MM → Prop) → XP → Prop
abbrev DA := Env → MM → (List D → MM → Prop) → XP → Prop
abbrev DT := Env → MM → (Bool → MM → Prop) → XP → Prop
structure DN where
  nx : Env → MM → Prop
  rt : D → MM → Prop
  bk : Env → MM → Prop := fun _ _ => False
  ct : Env → MM → Prop := fun _ _ => False
def Slots (K : PySem.W.Frag) (w : Wd) (σ : St) (ρ : Env) : Prop := σ.length = ρ.length ∧ ∀ (i : Nat) d, ρ[i]? = some (some d) → ∃ v, σ[i]? = some (some v) ∧ Rep K w d v
theorem Slots.mono {K : PySem.W.Frag} {w w' : Wd} {σ : St} {ρ : Env} (l : w.le w') (h : Slots K w σ ρ) : Slots K w' σ ρ := ⟨h.1, fun i d e => let ⟨v, a, b⟩ := h.2 i d e; ⟨v, a, Rep.mono l _ _ b⟩⟩
theorem Slots.set {K : PySem.W.Frag} {w : Wd} {σ : St} {ρ : Env} {d : D} {v : V} (i : Nat) (h : Slots K w σ ρ) (r : Rep K w d v) : Slots K w (σ.set i (some v)) (ρ.set i (some d)) := by
  refine ⟨by rw [List.length_set, List.length_set]; exact h.1, fun j d' e => ?_⟩
  by_cases hj : i = j
  · subst hj
    have hl : i < ρ.length := by
      rcases Nat.lt_or_ge i ρ.length with q | q
      · exact q
      · rw [List.getElem?_eq_none (by simpa using q)] at e; cases e
    rw [List.getElem?_set_self hl] at e
    cases e
    exact ⟨v, by rw [List.getElem?_set_self (by rw [h.1]; exact hl)], r⟩
  · rw [List.getElem?_set_ne hj] at e
    obtain ⟨u, a, b⟩ := h.2 j d' e
    exact ⟨u, by rw [List.getElem?_set_ne hj]; exact a, b⟩
theorem Slots.wipe {K : PySem.W.Frag} {w : Wd} {σ : St} {ρ : Env} (h : Slots K w σ ρ) (i : Nat) : Slots K w (σ.set i none) (ρ.set i none) := by
  refine ⟨by rw [List.length_set, List.length_set]; exact h.1, fun j d' e => ?_⟩
  by_cases hj : i = j
  · subst hj
    by_cases hl : i < ρ.length
    · rw [List.getElem?_set_self hl] at e; cases e
    · rw [List.getElem?_eq_none (by simpa using hl)] at e; cases e
  · rw [List.getElem?_set_ne hj] at e
    obtain ⟨u, a, b⟩ := h.2 j d' e
    exact ⟨u, by rw [List.getElem?_set_ne hj]; exact a, b⟩

def XLift (K : PySem.W.Frag) (w : Wd) (E : WX) (σ : St) (Ψ : XP) : Prop := ∀ C fs m' w' H' d xs, w.le w' → HRep K w' m' H' → w'.F d = some (.xd xs) → RepF K w' fs xs → Ψ C fs m' → E (.ref (kcl K C)) (some d) σ H'
theorem XLift.mono {K : PySem.W.Frag} {w w' : Wd} {E : WX} {σ : St} {Ψ : XP} (l : w.le w') (h : XLift K w E σ Ψ) : XLift K w' E σ Ψ := fun C fs m' w2 H' d xs l2 a b c q => h C fs m' w2 H' d xs (l.trans l2) a b c q
def VLift (K : PySem.W.Frag) (w : Wd) (Q : VK) (Φ : D → MM → Prop) : Prop := ∀ d m' w' H' v, w.le w' → HRep K w' m' H' → Rep K w' d v → Φ d m' → Q v H'
theorem VLift.mono {K : PySem.W.Frag} {w w' : Wd} {Q : VK} {Φ : D → MM → Prop} (l : w.le w') (h : VLift K w Q Φ) : VLift K w' Q Φ := fun d m' w2 H' v l2 a b c => h d m' w2 H' v (l.trans l2) a b c
def SLift (K : PySem.W.Frag) (w : Wd) (Q : St → Hp → Prop) (Φ : Env → MM → Prop) : Prop := ∀ ρ m' w' H' σ, w.le w' → HRep K w' m' H' → Slots K w' σ ρ → Φ ρ m' → Q σ H'
theorem SLift.mono {K : PySem.W.Frag} {w w' : Wd} {Q : St → Hp → Prop} {Φ : Env → MM → Prop} (l : w.le w') (h : SLift K w Q Φ) : SLift K w' Q Φ := fun d m' w2 H' v l2 a b c => h d m' w2 H' v (l.trans l2) a b c
structure NLift (K : PySem.W.Frag) (w : Wd) (D : Ends) (N : DN) : Prop where
  nx : SLift K w D.nx N.nx
  rt : VLift K w D.rt N.rt
  bk : SLift K w D.bk N.bk
  ct : SLift K w D.ct N.ct
theorem NLift.mono {K : PySem.W.Frag} {w w' : Wd} {D : Ends} {N : DN} (l : w.le w') (h : NLift K w D N) : NLift K w' D N := ⟨h.nx.mono l, h.rt.mono l, h.bk.mono l, h.ct.mono l⟩

abbrev XS := Env → XP
def SX (K : PySem.W.Frag) (w : Wd) (E : WX) (Ψ : XS) : Prop := ∀ ρ σ w1, w.le w1 → Slots K w1 σ ρ → XLift K w1 E σ (Ψ ρ)
theorem SX.mono {K : PySem.W.Frag} {w w' : Wd} {E : WX} {Ψ : XS} (l : w.le w') (h : SX K w E Ψ) : SX K w' E Ψ := fun ρ σ w1 l1 s => h ρ σ w1 (l.trans l1) s
structure At (K : PySem.W.Frag) (E : WX) (w : Wd) (σ : St) (H : Hp) (ρ : Env) (m : MM) (Ψ : XP) : Prop where
  h : HRep K w m H
  s : Slots K w σ ρ
  x : XLift K w E σ Ψ
theorem At.to {K : PySem.W.Frag} {E : WX} {w w' : Wd} {σ : St} {H H' : Hp} {ρ : Env} {m m' : MM} {Ψ : XP} (a : At K E w σ H ρ m Ψ) (l : w.le w') (h : HRep K w' m' H') : At K E w' σ H' ρ m' Ψ := ⟨h, a.s.mono l, a.x.mono l⟩
structure AtS (K : PySem.W.Frag) (E : WX) (w : Wd) (σ : St) (H : Hp) (ρ : Env) (m : MM) (Ψ : XS) : Prop where
  h : HRep K w m H
  s : Slots K w σ ρ
  x : SX K w E Ψ
theorem AtS.to {K : PySem.W.Frag} {E : WX} {w w' : Wd} {σ : St} {H H' : Hp} {ρ : Env} {m m' : MM} {Ψ : XS} (a : AtS K E w σ H ρ m Ψ) (l : w.le w') (h : HRep K w' m' H') : AtS K E w' σ H' ρ m' Ψ := ⟨h, a.s.mono l, a.x.mono l⟩
theorem AtS.at {K : PySem.W.Frag} {E : WX} {w : Wd} {σ : St} {H : Hp} {ρ : Env} {m : MM} {Ψ : XS} (a : AtS K E w σ H ρ m Ψ) : At K E w σ H ρ m (Ψ ρ) := ⟨a.h, a.s, a.x ρ σ w (Wd.le.refl w) a.s⟩
abbrev DS := DN → XS → Env → MM → Prop
def lift (K : PySem.W.Frag) (E : WX) (W : DE) : TE := fun σ H Q => ∃ w ρ m Ψ Φ, At K E w σ H ρ m Ψ ∧ VLift K w Q Φ ∧ W ρ m Φ Ψ
def liftA (K : PySem.W.Frag) (E : WX) (W : DA) : TA := fun σ H Q => ∃ w ρ m Ψ Φ, At K E w σ H ρ m Ψ ∧ (∀ ds m' w' H' vs, w.le w' → HRep K w' m' H' → RepAll K w' ds vs → Φ ds m' → Q vs H') ∧ W ρ m Φ Ψ
def liftT (K : PySem.W.Frag) (E : WX) (W : DT) : TT := fun σ H Q => ∃ w ρ m Ψ Φ, At K E w σ H ρ m Ψ ∧ (∀ b m' w' H', w.le w' → HRep K w' m' H' → Φ b m' → Q b H') ∧ W ρ m Φ Ψ
def liftS (K : PySem.W.Frag) (E : WX) (W : DS) : TS := fun D σ H => ∃ w ρ m Ψ N, AtS K E w σ H ρ m Ψ ∧ NLift K w D N ∧ W N Ψ ρ m

/-! ### judgements -/
abbrev JE (X : Cx) (E : WX) (e : Expr) (W : DE) : Prop := PE X e (lift X.K E W)
abbrev JA (X : Cx) (E : WX) (es : List Expr) (W : DA) : Prop := PA X es (liftA X.K E W)
abbrev JT (X : Cx) (E : WX) (e : Expr) (W : DT) : Prop := PT X e (liftT X.K E W)
abbrev JW (X : Cx) (E : WX) (e : Expr) (W : DT) : Prop := PW X e (liftT X.K E W)
abbrev JS (X : Cx) (E : WX) (st : Stmt) (W : DS) : Prop := PS X st (liftS X.K E W)
abbrev JSs (X : Cx) (E : WX) (st : List Stmt) (W : DS) : Prop := PSs X st (liftS X.K E W)
theorem PE.imp {X : Cx} {e : Expr} {t t' : TE} (h : PE X e t) (i : ∀ σ H Q, t' σ H Q → t σ H Q) : PE X e t' := ⟨fun pins s σ H Q I q => h.run pins s σ H Q I (i σ H Q q)⟩
theorem PA.imp {X : Cx} {e : List Expr} {t t' : TA} (h : PA X e t) (i : ∀ σ H Q, t' σ H Q → t σ H Q) : PA X e t' := ⟨fun pos pins s σ H Q I q => h.run pos pins s σ H Q I (i σ H Q q)⟩
theorem PT.imp {X : Cx} {e : Expr} {t t' : TT} (h : PT X e t) (i : ∀ σ H Q, t' σ H Q → t σ H Q) : PT X e t' := ⟨fun pins s σ H Q I q => h.run pins s σ H Q I (i σ H Q q)⟩
theorem PW.imp {X : Cx} {e : Expr} {t t' : TT} (h : PW X e t) (i : ∀ σ H Q, t' σ H Q → t σ H Q) : PW X e t' := ⟨fun wh pins s σ H Q I q => h.run wh pins s σ H Q I (i σ H Q q)⟩
theorem PS.imp {X : Cx} {e : Stmt} {t t' : TS} (h : PS X e t) (i : ∀ D σ H, t' D σ H → t D σ H) : PS X e t' := ⟨fun pins s σ H D I q => h.run pins s σ H D I (i D σ H q)⟩
theorem PSs.imp {X : Cx} {e : List Stmt} {t t' : TS} (h : PSs X e t) (i : ∀ D σ H, t' D σ H → t D σ H) : PSs X e t' := ⟨fun pins s σ H D I q => h.run pins s σ H D I (i D σ H q)⟩
end Dl

namespace Dl
open PySem L2
section
variable {K : PySem.W.Frag} {w w' : Wd} {m m' : MM} {H H' : Hp} {p a : Addr} {ho : HO} {k : Nat}

theorem ORep.ex (e : ∀ a o, H a = some o → H' a = some o) : ∀ {o : MO}, ORep K w H a o → ORep K w H' a o
  | .lst ds, ⟨xs, q, r⟩ => ⟨xs, e _ _ q, r⟩
  | .ins C fs, ⟨dx, vs, q, r⟩ => ⟨dx, vs, e _ _ q, r⟩
  | .dead, ⟨o, q⟩ => ⟨o, e _ _ q⟩
theorem HRep.ex (h : HRep K w m H) (e : ∀ a o, H a = some o → H' a = some o) : HRep K w m H' where
  ext := fun a o q => e a o (h.ext a o q)
  len := h.len
  nd := h.nd
  obj := fun k a o q1 q2 => (h.obj k a o q1 q2).ex e
  thF := h.thF
  ls := fun s1 S q => by
    obtain ⟨h1, h2⟩ := h.ls s1 S q
    refine ⟨S.fr H H' (fun a ha => ?_) h1, fun a ha => ?_⟩
    · obtain ⟨_, _, o, ho⟩ := h2 a ha
      rw [ho, e a o ho]
    · obtain ⟨q1, q2, o, ho⟩ := h2 a ha
      exact ⟨q1, q2, o, e a o ho⟩
  flag := h.flag
theorem HRep.thO (h : HRep K w m H) {k : Nat} {a : Addr} (e : w.th[k]? = some a) : ∃ o, m.M[k]? = some o ∧ ORep K w H a o := by
  have hk : k < w.th.length := (List.getElem?_eq_some_iff.mp e).1
  rw [h.len] at hk
  exact ⟨m.M[k], List.getElem?_eq_getElem hk, h.obj k a _ e (List.getElem?_eq_getElem hk)⟩
theorem HRep.thH (h : HRep K w m H) {a : Addr} (e : a ∈ w.th) : ∃ o, H a = some o := by
  obtain ⟨k, hk, rfl⟩ := List.mem_iff_getElem.mp e
  obtain ⟨o, _, q⟩ := h.thO (List.getElem?_eq_getElem hk)
  exact q.there
theorem HRep.nof (h : HRep K w m H) (hp : H p = none) : w.F p = none := by
  cases q : w.F p with
  | none => rfl
  | some o => rw [h.ext p o q] at hp; cases hp
theorem HRep.not (h : HRep K w m H) (hp : H p = none) : p ∉ w.th := fun z => by
  obtain ⟨o, q⟩ := h.thH z
  rw [hp] at q; cases q

/-- a new frozen object -/
def Wd.put (w : Wd) (p : Addr) (ho : HO) : Wd := ⟨upd w.F p ho, w.th, w.S⟩
theorem Wd.le_put (h : w.F p = none) : w.le (w.put p ho) := ⟨fun a o e => by show upd w.F p ho a = some o; rw [upd_ne (ne_of_none e h)]; exact e, fun _ _ e => e, fun _ e => e⟩
theorem ex_new (hp : H p = none) : ∀ a o, H a = some o → upd H p ho a = some o := fun a o e => by rw [upd_ne (ne_of_none e hp)]; exact e
theorem HRep.put (h : HRep K w m H) (hp : H p = none) : HRep K (w.put p ho) m (upd H p ho) where
  ext := fun a o q => by
    have q : upd w.F p ho a = some o := q
    by_cases e : a = p
    · subst e; rw [upd_same] at q ⊢; exact q
    · rw [upd_ne e] at q ⊢; exact h.ext a o q
  len := h.len
  nd := h.nd
  obj := fun k a o q1 q2 => by
    have z := h.obj k a o q1 q2
    have ne : a ≠ p := fun e => h.not hp (by rw [← e]; exact List.mem_of_getElem? q1)
    exact z.mono (Wd.le_put (h.nof hp)) (upd_ne ne)
  thF := fun k a o q1 q2 q3 => by
    have ne : a ≠ p := fun e => h.not hp (by rw [← e]; exact List.mem_of_getElem? q1)
    show upd w.F p ho a = none
    rw [upd_ne ne]; exact h.thF k a o q1 q2 q3
  ls := fun s1 S q => by
    obtain ⟨h1, h2⟩ := h.ls s1 S q
    have ne : ∀ a ∈ S.fp, a ≠ p := fun a ha e => by
      obtain ⟨_, _, o, ho⟩ := h2 a ha
      rw [e, hp] at ho; cases ho
    refine ⟨S.fr H _ (fun a ha => upd_ne (ne a ha)) h1, fun a ha => ?_⟩
    obtain ⟨q1, q2, o, q3⟩ := h2 a ha
    refine ⟨?_, q2, o, by rw [upd_ne (ne a ha)]; exact q3⟩
    show upd w.F p ho a = none
    rw [upd_ne (ne a ha)]; exact q1
  flag := h.flag
theorem rep_put_lst {ds : List D} {xs : List V} (h : HRep K w m H) (hp : H p = none) (r : RepAll K w ds xs) : Rep K (w.put p (.lst xs)) (.lst ds) (.ref p) :=
  ⟨p, xs, rfl, upd_same, RepAll.mono (Wd.le_put (h.nof hp)) _ _ r⟩
theorem rep_put_tup {ds : List D} {xs : List V} (h : HRep K w m H) (hp : H p = none) (r : RepAll K w ds xs) : Rep K (w.put p (.tup xs)) (.tup ds) (.ref p) :=
  ⟨p, xs, rfl, upd_same, RepAll.mono (Wd.le_put (h.nof hp)) _ _ r⟩

/-- a new changing object -/
def Wd.add (w : Wd) (p : Addr) : Wd := ⟨w.F, w.th ++ [p], w.S⟩
def MM.push (m : MM) (o : MO) : MM := ⟨m.M ++ [o], m.s⟩
theorem Wd.le_add : w.le (w.add p) := ⟨fun _ _ e => e, fun k a e => by
  show (w.th ++ [p])[k]? = some a
  rw [List.getElem?_append_left (List.getElem?_eq_some_iff.mp e).1]; exact e, fun _ e => e⟩
theorem HRep.add {o : MO} (h : HRep K w m H) (hp : H p = none) (ob : ORep K (w.add p) (upd H p ho) p o) : HRep K (w.add p) (m.push o) (upd H p ho) where
  ext := fun a o q => ex_new hp a o (h.ext a o q)
  len := by show (w.th ++ [p]).length = (m.M ++ [o]).length; rw [List.length_append, List.length_append, h.len]; rfl
  nd := by
    show (w.th ++ [p]).Nodup
    rw [List.nodup_append]
    refine ⟨h.nd, by simp, fun a ha b hb e => ?_⟩
    have e2 : b = p := by simpa using hb
    subst e2; subst e
    exact h.not hp ha
  obj := fun k a o' q1 q2 => by
    have q1 : (w.th ++ [p])[k]? = some a := q1
    have q2 : (m.M ++ [o])[k]? = some o' := q2
    rcases Nat.lt_or_ge k w.th.length with hk | hk
    · rw [List.getElem?_append_left hk] at q1
      rw [List.getElem?_append_left (by rw [← h.len]; exact hk)] at q2
      have ne : a ≠ p := fun e => h.not hp (by rw [← e]; exact List.mem_of_getElem? q1)
      exact (h.obj k a o' q1 q2).mono Wd.le_add (upd_ne ne)
    · rw [List.getElem?_append_right hk] at q1
      rw [List.getElem?_append_right (by rw [← h.len]; exact hk)] at q2
      have hk2 : k = w.th.length := by
        have z := (List.getElem?_eq_some_iff.mp q1).1
        simp at z; omega
      subst hk2
      rw [Nat.sub_self] at q1
      rw [h.len, Nat.sub_self] at q2
      simp at q1 q2
      subst q1; subst q2
      exact ob
  thF := fun k a o' q1 q2 q3 => by
    have q1 : (w.th ++ [p])[k]? = some a := q1
    have q2 : (m.M ++ [o])[k]? = some o' := q2
    show w.F a = none
    rcases Nat.lt_or_ge k w.th.length with hk | hk
    · rw [List.getElem?_append_left hk] at q1
      rw [List.getElem?_append_left (by rw [← h.len]; exact hk)] at q2
      exact h.thF k a o' q1 q2 q3
    · rw [List.getElem?_append_right hk] at q1
      have z : a ∈ [p] := List.mem_of_getElem? q1
      have e : a = p := by simpa using z
      rw [e]; exact h.nof hp
  ls := fun s1 S q => by
    obtain ⟨h1, h2⟩ := h.ls s1 S q
    have ne : ∀ a ∈ S.fp, a ≠ p := fun a ha e => by
      obtain ⟨_, _, o, ho⟩ := h2 a ha
      rw [e, hp] at ho; cases ho
    refine ⟨S.fr H _ (fun a ha => upd_ne (ne a ha)) h1, fun a ha => ?_⟩
    obtain ⟨q1, q2, o, q3⟩ := h2 a ha
    refine ⟨q1, ?_, o, by rw [upd_ne (ne a ha)]; exact q3⟩
    show a ∉ w.th ++ [p]
    simp only [List.mem_append, List.mem_singleton, not_or]
    exact ⟨q2, ne a ha⟩
  flag := h.flag
theorem rep_add (h : HRep K w m H) : Rep K (w.add p) (.hnd m.M.length) (.ref p) := ⟨p, rfl, by
  show (w.th ++ [p])[m.M.length]? = some p
  rw [← h.len, List.getElem?_append_right (Nat.le_refl _)]; simp⟩

/-- a changing object is written -/
theorem HRep.wr {o o' : MO} (h : HRep K w m H) (e : w.th[k]? = some a) (eo : m.M[k]? = some o) (hd : o ≠ .dead) (ob : ORep K w (upd H a ho) a o') : HRep K w ⟨m.M.set k o', m.s⟩ (upd H a ho) where
  ext := fun b u q => by
    have ne : b ≠ a := fun z => by rw [z, h.thF k a o e eo hd] at q; cases q
    rw [upd_ne ne]; exact h.ext b u q
  len := by show w.th.length = (m.M.set k o').length; rw [List.length_set]; exact h.len
  nd := h.nd
  obj := fun j b u q1 q2 => by
    have q2 : (m.M.set k o')[j]? = some u := q2
    by_cases hj : k = j
    · subst hj
      rw [e] at q1; cases q1
      rw [List.getElem?_set_self (List.getElem?_eq_some_iff.mp eo).1] at q2
      cases q2; exact ob
    · rw [List.getElem?_set_ne hj] at q2
      have ne : b ≠ a := fun z => hj (by
        subst z
        obtain ⟨k1, k2⟩ := List.getElem?_eq_some_iff.mp e
        obtain ⟨j1, j2⟩ := List.getElem?_eq_some_iff.mp q1
        exact (List.getElem_inj h.nd).mp (k2.trans j2.symm))
      exact (h.obj j b u q1 q2).mono (Wd.le.refl w) (upd_ne ne)
  thF := fun j b u q1 q2 q3 => by
    have q2 : (m.M.set k o')[j]? = some u := q2
    by_cases hj : k = j
    · subst hj
      rw [e] at q1; cases q1
      exact h.thF k a o e eo hd
    · rw [List.getElem?_set_ne hj] at q2
      exact h.thF j b u q1 q2 q3
  ls := fun s1 S q => by
    obtain ⟨h1, h2⟩ := h.ls s1 S q
    have ne : ∀ b ∈ S.fp, b ≠ a := fun b hb z => (h2 b hb).2.1 (by rw [z]; exact List.mem_of_getElem? e)
    refine ⟨S.fr H _ (fun b hb => upd_ne (ne b hb)) h1, fun b hb => ?_⟩
    obtain ⟨q1, q2, o, q3⟩ := h2 b hb
    exact ⟨q1, q2, o, by rw [upd_ne (ne b hb)]; exact q3⟩
  flag := h.flag
/-- a changing list is frozen -/
theorem HRep.frz {ds : List D} (h : HRep K w m H) (e : w.th[k]? = some a) (eo : m.M[k]? = some (.lst ds)) : ∃ xs, w.F a = none ∧ H a = some (.lst xs) ∧ RepAll K w ds xs ∧ HRep K (w.put a (.lst xs)) ⟨m.M.set k .dead, m.s⟩ H := by
  obtain ⟨xs, hx, r⟩ := h.obj k a _ e eo
  have fa := h.thF k a _ e eo (fun z => by cases z)
  refine ⟨xs, fa, hx, r, ?_⟩
  have le := Wd.le_put (ho := .lst xs) fa
  have nea : ∀ {j : Nat} {b : Addr}, w.th[j]? = some b → b = a → k = j := fun {j b} q1 z => by
    subst z
    obtain ⟨k1, k2⟩ := List.getElem?_eq_some_iff.mp e
    obtain ⟨j1, j2⟩ := List.getElem?_eq_some_iff.mp q1
    exact (List.getElem_inj h.nd).mp (k2.trans j2.symm)
  exact {
    ext := fun b u q => by
      have q : upd w.F a (.lst xs) b = some u := q
      by_cases z : b = a
      · subst z; rw [upd_same] at q; cases q; exact hx
      · rw [upd_ne z] at q; exact h.ext b u q
    len := by show w.th.length = (m.M.set k .dead).length; rw [List.length_set]; exact h.len
    nd := h.nd
    obj := fun j b u q1 q2 => by
      have q2 : (m.M.set k .dead)[j]? = some u := q2
      by_cases hj : k = j
      · subst hj
        have q1 : w.th[k]? = some b := q1
        rw [e] at q1; cases q1
        rw [List.getElem?_set_self (List.getElem?_eq_some_iff.mp eo).1] at q2
        cases q2; exact ⟨_, hx⟩
      · rw [List.getElem?_set_ne hj] at q2
        exact (h.obj j b u q1 q2).mono le rfl
    thF := fun j b u q1 q2 q3 => by
      have q2 : (m.M.set k .dead)[j]? = some u := q2
      have q1 : w.th[j]? = some b := q1
      by_cases hj : k = j
      · subst hj
        rw [List.getElem?_set_self (List.getElem?_eq_some_iff.mp eo).1] at q2
        cases q2; exact absurd rfl q3
      · rw [List.getElem?_set_ne hj] at q2
        show upd w.F a (.lst xs) b = none
        rw [upd_ne (fun z => hj (nea q1 z))]
        exact h.thF j b u q1 q2 q3
    ls := fun s1 S q => by
      obtain ⟨h1, h2⟩ := h.ls s1 S q
      refine ⟨h1, fun b hb => ?_⟩
      obtain ⟨q1, q2, o, q3⟩ := h2 b hb
      refine ⟨?_, q2, o, q3⟩
      show upd w.F a (.lst xs) b = none
      rw [upd_ne (fun z => q2 (by rw [z]; exact List.mem_of_getElem? e))]; exact q1
    flag := h.flag }
/-- the last objects are let go -/
def Wd.cut (w : Wd) (n : Nat) : Wd := ⟨w.F, w.th.take n, w.S⟩
def MM.cut (m : MM) (n : Nat) : MM := ⟨m.M.take n, m.s⟩
mutual
def clD (n : Nat) : D → Bool
  | .hnd k => decide (k < n)
  | .lst ds => clAll n ds
  | .tup ds => clAll n ds
  | .rol ds => clAll n ds
  | .rot ds => clAll n ds
  | .exc _ _ _ fs => clF n fs
  | _ => true
def clAll (n : Nat) : List D → Bool
  | [] => true
  | d :: ds => clD n d && clAll n ds
def clF (n : Nat) : List (String × D) → Bool
  | [] => true
  | (_, d) :: ds => clD n d && clF n ds
end
def clO (n : Nat) : MO → Bool
  | .lst ds => clAll n ds
  | .ins _ fs => clF n fs
  | .dead => true
mutual
theorem Rep.cl : ∀ (d : D) (v : V), Rep K w d v → clD w.th.length d = true
  | .non, _, _ => rfl
  | .bl _, _, _ => rfl
  | .int _, _, _ => rfl
  | .str _, _, _ => rfl
  | .ty _, _, _ => rfl
  | .cls _, _, _ => rfl
  | .st _, _, _ => rfl
  | .lst ds, _, ⟨_, xs, _, _, r⟩ => RepAll.cl ds xs r
  | .tup ds, _, ⟨_, xs, _, _, r⟩ => RepAll.cl ds xs r
  | .rol ds, _, ⟨_, xs, _, _, r⟩ => RepAll.cl ds xs r
  | .rot ds, _, ⟨_, xs, _, _, r⟩ => RepAll.cl ds xs r
  | .exc _ _ _ fs, _, ⟨_, xs, _, r⟩ => RepF.cl fs xs r
  | .hnd k, _, ⟨a, _, q⟩ => by
    show decide (k < w.th.length) = true
    exact decide_eq_true (List.getElem?_eq_some_iff.mp q).1
theorem RepAll.cl : ∀ (ds : List D) (vs : List V), RepAll K w ds vs → clAll w.th.length ds = true
  | [], _, _ => rfl
  | d :: ds, _, ⟨v, r, _, a, b⟩ => by
    show (clD _ d && clAll _ ds) = true
    rw [Rep.cl d v a, RepAll.cl ds r b]; rfl
theorem RepF.cl : ∀ (ds : List (String × D)) (vs : List (Str × V)), RepF K w ds vs → clF w.th.length ds = true
  | [], _, _ => rfl
  | (f, d) :: ds, _, ⟨v, r, _, a, b⟩ => by
    show (clD _ d && clF _ ds) = true
    rw [Rep.cl d v a, RepF.cl ds r b]; rfl
end
mutual
theorem Rep.cut {n : Nat} : ∀ (d : D) (v : V), Rep K w d v → clD n d = true → Rep K (w.cut n) d v
  | .non, _, h, _ => h
  | .bl _, _, h, _ => h
  | .int _, _, h, _ => h
  | .str _, _, h, _ => h
  | .ty _, _, h, _ => h
  | .cls _, _, h, _ => h
  | .st _, _, h, _ => h
  | .lst ds, _, ⟨a, xs, e, q, r⟩, c => ⟨a, xs, e, q, RepAll.cut ds xs r c⟩
  | .tup ds, _, ⟨a, xs, e, q, r⟩, c => ⟨a, xs, e, q, RepAll.cut ds xs r c⟩
  | .rol ds, _, ⟨a, xs, e, q, r⟩, c => ⟨a, xs, e, q, RepAll.cut ds xs r c⟩
  | .rot ds, _, ⟨a, xs, e, q, r⟩, c => ⟨a, xs, e, q, RepAll.cut ds xs r c⟩
  | .exc _ _ _ fs, _, ⟨e, xs, q, r⟩, c => ⟨e, xs, q, RepF.cut fs xs r c⟩
  | .hnd k, _, ⟨a, e, q⟩, c => ⟨a, e, by
    have c : decide (k < n) = true := c
    have c := of_decide_eq_true c
    show (w.th.take n)[k]? = some a
    rw [List.getElem?_take_of_lt c]; exact q⟩
theorem RepAll.cut {n : Nat} : ∀ (ds : List D) (vs : List V), RepAll K w ds vs → clAll n ds = true → RepAll K (w.cut n) ds vs
  | [], _, h, _ => h
  | d :: ds, _, ⟨v, r, e, a, b⟩, c => by
    have c : (clD n d && clAll n ds) = true := c
    rw [Bool.and_eq_true] at c
    exact ⟨v, r, e, Rep.cut d v a c.1, RepAll.cut ds r b c.2⟩
theorem RepF.cut {n : Nat} : ∀ (ds : List (String × D)) (vs : List (Str × V)), RepF K w ds vs → clF n ds = true → RepF K (w.cut n) ds vs
  | [], _, h, _ => h
  | (f, d) :: ds, _, ⟨v, r, e, a, b⟩, c => by
    have c : (clD n d && clF n ds) = true := c
    rw [Bool.and_eq_true] at c
    exact ⟨v, r, e, Rep.cut d v a c.1, RepF.cut ds r b c.2⟩
end
theorem ORep.cut {n : Nat} : ∀ {o : MO}, ORep K w H a o → clO n o = true → ORep K (w.cut n) H a o
  | .lst ds, ⟨xs, q, r⟩, c => ⟨xs, q, RepAll.cut ds xs r c⟩
  | .ins C fs, ⟨dx, vs, q, r⟩, c => ⟨dx, vs, q, RepF.cut fs vs r c⟩
  | .dead, h, _ => h
theorem ORep.cl : ∀ {o : MO}, ORep K w H a o → clO w.th.length o = true
  | .lst ds, ⟨xs, q, r⟩ => RepAll.cl ds xs r
  | .ins C fs, ⟨dx, vs, q, r⟩ => RepF.cl fs vs r
  | .dead, h => rfl
theorem HRep.cut {n : Nat} (h : HRep K w m H) (c : ∀ o ∈ m.M.take n, clO n o = true) : HRep K (w.cut n) (m.cut n) H where
  ext := h.ext
  len := by show (w.th.take n).length = (m.M.take n).length; rw [List.length_take, List.length_take, h.len]
  nd := h.nd.sublist (List.take_sublist _ _)
  obj := fun k a o q1 q2 => by
    have q1 : (w.th.take n)[k]? = some a := q1
    have q2 : (m.M.take n)[k]? = some o := q2
    have hk : k < n := by
      have z := (List.getElem?_eq_some_iff.mp q1).1
      rw [List.length_take] at z; omega
    have cc := c o (List.mem_of_getElem? q2)
    rw [List.getElem?_take_of_lt hk] at q1 q2
    exact (h.obj k a o q1 q2).cut cc
  thF := fun k a o q1 q2 q3 => by
    have q1 : (w.th.take n)[k]? = some a := q1
    have q2 : (m.M.take n)[k]? = some o := q2
    have hk : k < n := by
      have z := (List.getElem?_eq_some_iff.mp q1).1
      rw [List.length_take] at z; omega
    rw [List.getElem?_take_of_lt hk] at q1 q2
    exact h.thF k a o q1 q2 q3
  ls := fun s1 S q => by
    obtain ⟨h1, h2⟩ := h.ls s1 S q
    exact ⟨h1, fun a ha => ⟨(h2 a ha).1, fun z => (h2 a ha).2.1 (List.mem_of_mem_take z), (h2 a ha).2.2⟩⟩
  flag := h.flag
/-- objects as they were at an entry bear no later handles -/
theorem HRep.cls (h : HRep K w m H) : ∀ o ∈ m.M, clO m.M.length o = true := fun o ho => by
  obtain ⟨k, hk, rfl⟩ := List.mem_iff_getElem.mp ho
  have hk2 : k < w.th.length := by rw [h.len]; exact hk
  have z := (h.obj k _ _ (List.getElem?_eq_getElem hk2) (List.getElem?_eq_getElem hk)).cl
  rw [h.len] at z; exact z
theorem Wd.le_cut {w0 : Wd} {n : Nat} (l : w0.le w) (hn : w0.th.length ≤ n) : w0.le (w.cut n) := ⟨l.F, fun k a e => by
  show (w.th.take n)[k]? = some a
  rw [List.getElem?_take_of_lt (Nat.lt_of_lt_of_le (List.getElem?_eq_some_iff.mp e).1 hn)]; exact l.th k a e, l.S⟩
end
end Dl

namespace Dl
open PySem L2 PyProof.Rows

/-! ### expressions -/
def dVar (i : Nat) : DE := fun ρ m Φ _ => match ρ[i]? with
  | some (some d) => Φ d m
  | _ => False
def dC (d : D) : DE := fun _ m Φ _ => Φ d m
section
variable {X : Cx} {E : WX} {a b c : Expr} {Wa Wb Wc : DE} {pos : Pos}
theorem je_var (i : Nat) {x : Str} {pos : Pos} (hN : X.N[i]? = some x := by rfl) (hv : Vis X.env.scope x := by first | exact Or.inl rfl | exact Or.inr (Or.inl rfl) | exact Or.inr (Or.inr rfl)) (hd : (x == ("__debug__" : Str)) = false := by decide)
    (hcd : (x == ("__classdict__" : Str)) = false := by decide) : JE X E (.Name x pos) (dVar i) := PE.imp (pe_var hN hv hd hcd) fun σ H Q ⟨w, ρ, m, Ψ, Φ, a, vl, h⟩ => by
  unfold dVar at h
  split at h
  · rename_i d e
    obtain ⟨v, e1, r⟩ := a.s.2 i d e
    exact ⟨v, e1, vl d m w H v (.refl w) a.h r h⟩
  · exact h.elim
theorem je_of {e : Expr} {v : V} {d : D} (h : PE X e (tC v)) (r : ∀ w, Rep X.K w d v) : JE X E e (dC d) := PE.imp h fun σ H Q ⟨w, ρ, m, Ψ, Φ, a, vl, h⟩ => vl d m w H v (.refl w) a.h (r w) h
theorem je_int {i j pos} : JE X E (.Constant (.int i) j pos) (dC (.int i)) := je_of pe_int fun _ => rfl
theorem je_bl {b j pos} : JE X E (.Constant (.bool b) j pos) (dC (.bl b)) := je_of pe_bl fun _ => rfl
theorem je_non {j pos} : JE X E (.Constant .none j pos) (dC .non) := je_of pe_non fun _ => rfl
theorem je_str {x j pos} : JE X E (.Constant (.str x) j pos) (dC (.str x)) := je_of pe_str fun _ => rfl
/-- a constant of the module that is an int -/
theorem je_globI {x : Str} {i : Int} {t : Tok} {pos : Pos} (hg : Gl X x) (hm : X.mg x = some (.int i t)) (hd : (x == ("__debug__" : Str)) = false := by decide) : JE X E (.Name x pos) (dC (.int i)) := je_of (v := .int i) (pe_glob hg hm ⟨_, rfl⟩ hd) fun _ => rfl

/-- an operation on values, lifted -/
abbrev DO := D → D → MM → (D → MM → Prop) → Prop
def OpL (K : PySem.W.Frag) (r : R2) (o : DO) : Prop := ∀ w m H x y u v Q Φ, HRep K w m H → Rep K w x u → Rep K w y v → VLift K w Q Φ → o x y m Φ → r u v H Q
def dOp (o : DO) (a b : DE) : DE := fun ρ m Φ Ψ => a ρ m (fun x m1 => b ρ m1 (fun y m2 => o x y m2 Φ) Ψ) Ψ
theorem dOp_ok {r : R2} {o : DO} (hl : OpL X.K r o) {σ : L2.St} {H : Hp} {Q : VK} (h : lift X.K E (dOp o Wa Wb) σ H Q) : tOp r (lift X.K E Wa) (lift X.K E Wb) σ H Q := by
  obtain ⟨w, ρ, m, Ψ, Φ, a, vl, h⟩ := h
  refine ⟨w, ρ, m, Ψ, _, a, fun x m1 w1 H1 u l1 h1 r1 q1 => ?_, h⟩
  refine ⟨w1, ρ, m1, Ψ, _, a.to l1 h1, fun y m2 w2 H2 v l2 h2 r2 q2 => ?_, q1⟩
  exact hl w2 m2 H2 x y u v Q Φ h2 (Rep.mono l2 _ _ r1) r2 (vl.mono (l1.trans l2)) q2
theorem je_op {op : Operator} {r : R2} {o : DO} (ho : OpR X (binaryOp op) r) (hl : OpL X.K r o) (ha : JE X E a Wa) (hb : JE X E b Wb) : JE X E (.BinOp a op b pos) (dOp o Wa Wb) := PE.imp (pe_op ho ha hb) fun _ _ _ h => dOp_ok hl h
theorem je_cmp {op : CmpOp} {r : R2} {o : DO} (ho : OpR X (compareOp op) r) (hl : OpL X.K r o) (ha : JE X E a Wa) (hb : JE X E b Wb) (hm : behindInMarks op b = false) : JE X E (.Compare a [op] [b] pos) (dOp o Wa Wb) := PE.imp (pe_cmpR ho ha hb hm) fun _ _ _ h => dOp_ok hl h
/-- a value that is True or False, as a test -/
def dB (W : DE) : DT := fun ρ m Φ Ψ => W ρ m (fun d m1 => match d with
  | .bl b => Φ b m1
  | _ => False) Ψ
theorem dB_ok {t : TE} {W : DE} (ht : ∀ σ H Q, lift X.K E W σ H Q → t σ H Q) {σ : L2.St} {H : Hp} {Q : Bool → Hp → Prop} (h : liftT X.K E (dB W) σ H Q) : tTest t σ H Q := by
  obtain ⟨w, ρ, m, Ψ, Φ, a, vl, h⟩ := h
  refine ht σ H _ ⟨w, ρ, m, Ψ, _, a, fun d m1 w1 H1 v l1 h1 r1 q1 => ?_, h⟩
  cases d with
  | bl b => exact ⟨b, r1, vl b m1 w1 H1 l1 h1 q1⟩
  | _ => exact False.elim q1
theorem jt_cmp {op : CmpOp} {r : R2} {o : DO} (ho : OpR X (compareOp op) r) (hl : OpL X.K r o) (ha : JE X E a Wa) (hb : JE X E b Wb) (hm : behindInMarks op b = false) : JT X E (.Compare a [op] [b] pos) (dB (dOp o Wa Wb)) :=
  PT.imp (pt_cmpR ho ha hb hm) fun _ _ _ h => dB_ok (fun _ _ _ h => dOp_ok hl h) h
theorem jt_val {e : Expr} {W : DE} (h : JE X E e W) (he : ∀ whole, isTrue e X.env whole = (do let v ← whole; standAt e.pos; holding [v] (truthy v)) := by intro _; rfl) : JT X E e (dB W) :=
  PT.imp (pt_val h he) fun _ _ _ h => dB_ok (t := lift X.K E W) (fun _ _ _ h => h) h
/-- a op1 b op2 c -/
def dChain (o o' : DO) (a b c : DE) : DE := fun ρ m Φ Ψ => a ρ m (fun x m1 => b ρ m1 (fun y m2 => o x y m2 (fun z m3 => match z with
  | .bl k => if k = true then c ρ m3 (fun u m4 => o' y u m4 Φ) Ψ else Φ (.bl false) m3
  | _ => False)) Ψ) Ψ
theorem dChain_ok {r r' : R2} {o o' : DO} (hl : OpL X.K r o) (hl' : OpL X.K r' o') {σ : L2.St} {H : Hp} {Q : VK} (h : lift X.K E (dChain o o' Wa Wb Wc) σ H Q) : tChain r r' (lift X.K E Wa) (lift X.K E Wb) (lift X.K E Wc) σ H Q := by
  obtain ⟨w, ρ, m, Ψ, Φ, a, vl, h⟩ := h
  refine ⟨w, ρ, m, Ψ, _, a, fun x m1 w1 H1 u l1 h1 r1 q1 => ?_, h⟩
  refine ⟨w1, ρ, m1, Ψ, _, a.to l1 h1, fun y m2 w2 H2 v l2 h2 r2 q2 => ?_, q1⟩
  refine hl w2 m2 H2 x y u v _ _ h2 (Rep.mono l2 _ _ r1) r2 (fun z m3 w3 H3 zv l3 h3 r3 q3 => ?_) q2
  cases z with
  | bl k =>
    refine ⟨k, r3, ?_⟩
    cases k with
    | true =>
      have q3 : Wc ρ m3 (fun u m4 => o' y u m4 Φ) Ψ := q3
      rw [if_pos rfl]
      have l13 := l1.trans (l2.trans l3)
      refine ⟨w3, ρ, m3, Ψ, _, a.to l13 h3, fun d m4 w4 H4 v4 l4 h4 r4 q4 => ?_, q3⟩
      exact hl' w4 m4 H4 y d v v4 Q Φ h4 (Rep.mono (l3.trans l4) _ _ r2) r4 (vl.mono (l13.trans l4)) q4
    | false =>
      have q3 : Φ (.bl false) m3 := q3
      rw [if_neg Bool.false_ne_true]
      exact vl (.bl false) _ w3 H3 _ (l1.trans (l2.trans l3)) h3 rfl q3
  | _ => exact False.elim q3
theorem je_chain {op op' : CmpOp} {r r' : R2} {o o' : DO} (ho : OpR X (compareOp op) r) (hl : OpL X.K r o) (ho' : OpR X (compareOp op') r') (hl' : OpL X.K r' o') (ha : JE X E a Wa) (hb : JE X E b Wb) (hc : JE X E c Wc)
    (hm : lastMarks [op, op'] [b, c] = false := by with_unfolding_all rfl) : JE X E (.Compare a [op, op'] [b, c] pos) (dChain o o' Wa Wb Wc) := PE.imp (pe_chain ho ho' ha hb hc hm) fun _ _ _ h => dChain_ok hl hl' h
theorem jt_chain {op op' : CmpOp} {r r' : R2} {o o' : DO} (ho : OpR X (compareOp op) r) (hl : OpL X.K r o) (ho' : OpR X (compareOp op') r') (hl' : OpL X.K r' o') (ha : JE X E a Wa) (hb : JE X E b Wb) (hc : JE X E c Wc)
    (hm : lastMarks [op, op'] [b, c] = false := by with_unfolding_all rfl) : JT X E (.Compare a [op, op'] [b, c] pos) (dB (dChain o o' Wa Wb Wc)) := PT.imp (pt_chain ho ho' ha hb hc hm) fun _ _ _ h => dB_ok (fun _ _ _ h => dChain_ok hl hl' h) h
/-- one-place operations -/
abbrev DO1 := D → MM → (D → MM → Prop) → Prop
def dUn (o : DO1) (a : DE) : DE := fun ρ m Φ Ψ => a ρ m (fun x m1 => o x m1 Φ) Ψ
/-! ### tests -/
variable {tA tB' : DT} {rest : List Expr}
def dAnd (t u : DT) : DT := fun ρ m Φ Ψ => t ρ m (fun c m1 => if c = true then u ρ m1 Φ Ψ else Φ false m1) Ψ
def dOr (t u : DT) : DT := fun ρ m Φ Ψ => t ρ m (fun c m1 => if c = true then Φ true m1 else u ρ m1 Φ Ψ) Ψ
def dNot (t : DT) : DT := fun ρ m Φ Ψ => t ρ m (fun c m1 => Φ (!c) m1) Ψ
theorem jw_and1 (ha : JT X E a tA) : JW X E (.BoolOp .And [a] pos) tA := pw_and1 ha
theorem jw_or1 (ha : JT X E a tA) : JW X E (.BoolOp .Or [a] pos) tA := pw_or1 ha
theorem jw_and (ha : JT X E a tA) (hb : JW X E (.BoolOp .And (b :: rest) pos) tB') : JW X E (.BoolOp .And (a :: b :: rest) pos) (dAnd tA tB') := PW.imp (pw_and ha hb) fun σ H Q ⟨w, ρ, m, Ψ, Φ, a, vl, h⟩ => by
  refine ⟨w, ρ, m, Ψ, _, a, fun c m1 w1 H1 l1 h1 q1 => ?_, h⟩
  cases c with
  | true => exact ⟨w1, ρ, m1, Ψ, Φ, a.to l1 h1, fun b m2 w2 H2 l2 h2 q2 => vl b m2 w2 H2 (l1.trans l2) h2 q2, q1⟩
  | false => exact vl false m1 w1 H1 l1 h1 q1
theorem jw_or (ha : JT X E a tA) (hb : JW X E (.BoolOp .Or (b :: rest) pos) tB') : JW X E (.BoolOp .Or (a :: b :: rest) pos) (dOr tA tB') := PW.imp (pw_or ha hb) fun σ H Q ⟨w, ρ, m, Ψ, Φ, a, vl, h⟩ => by
  refine ⟨w, ρ, m, Ψ, _, a, fun c m1 w1 H1 l1 h1 q1 => ?_, h⟩
  cases c with
  | false => exact ⟨w1, ρ, m1, Ψ, Φ, a.to l1 h1, fun b m2 w2 H2 l2 h2 q2 => vl b m2 w2 H2 (l1.trans l2) h2 q2, q1⟩
  | true => exact vl true m1 w1 H1 l1 h1 q1
theorem jt_not (ha : JT X E a tA) : JT X E (.UnaryOp .Not a pos) (dNot tA) := PT.imp (pt_not ha) fun σ H Q ⟨w, ρ, m, Ψ, Φ, a, vl, h⟩ =>
  ⟨w, ρ, m, Ψ, _, a, fun c m1 w1 H1 l1 h1 q1 => vl (!c) m1 w1 H1 l1 h1 q1, h⟩
/-- and, or, not as values of True and False -/
def dBlV (d : D) (f : Bool → Prop) : Prop := match d with
  | .bl b => f b
  | _ => False
def dAndV (a b : DE) : DE := fun ρ m Φ Ψ => a ρ m (fun x m1 => dBlV x fun c => if c = true then b ρ m1 Φ Ψ else Φ (.bl false) m1) Ψ
def dOrV (a b : DE) : DE := fun ρ m Φ Ψ => a ρ m (fun x m1 => dBlV x fun c => if c = true then Φ (.bl true) m1 else b ρ m1 Φ Ψ) Ψ
def dNotV (a : DE) : DE := fun ρ m Φ Ψ => a ρ m (fun x m1 => dBlV x fun c => Φ (.bl (!c)) m1) Ψ
def dIfE (t : DT) (a b : DE) : DE := fun ρ m Φ Ψ => t ρ m (fun c m1 => if c = true then a ρ m1 Φ Ψ else b ρ m1 Φ Ψ) Ψ
theorem je_ifExp {c : Expr} (hc : JT X E c tA) (ha : JE X E a Wa) (hb : JE X E b Wb) : JE X E (.IfExp c a b pos) (dIfE tA Wa Wb) := PE.imp (pe_ifExp hc ha hb) fun σ H Q ⟨w, ρ, m, Ψ, Φ, a, vl, h⟩ => by
  refine ⟨w, ρ, m, Ψ, _, a, fun c m1 w1 H1 l1 h1 q1 => ?_, h⟩
  cases c with
  | true => exact ⟨w1, ρ, m1, Ψ, Φ, a.to l1 h1, vl.mono l1, q1⟩
  | false => exact ⟨w1, ρ, m1, Ψ, Φ, a.to l1 h1, vl.mono l1, q1⟩

/-! ### argument lists, displays -/
variable {es : List Expr} {Ws : DA}
def dNil : DA := fun _ m Φ _ => Φ [] m
def dCons (a : DE) (r : DA) : DA := fun ρ m Φ Ψ => a ρ m (fun x m1 => r ρ m1 (fun xs m2 => Φ (x :: xs) m2) Ψ) Ψ
theorem ja_nil : JA X E [] dNil := PA.imp pa_nil fun σ H Q ⟨w, ρ, m, Ψ, Φ, a, vl, h⟩ => vl [] m w H [] (.refl w) a.h rfl h
theorem ja_cons (ha : JE X E a Wa) (hr : JA X E es Ws) (hs : starEach (a :: es) X.env = (false, eval a X.env) :: starEach es X.env := by rfl) : JA X E (a :: es) (dCons Wa Ws) := PA.imp (pa_cons ha hr hs) fun σ H Q ⟨w, ρ, m, Ψ, Φ, a, vl, h⟩ => by
  refine ⟨w, ρ, m, Ψ, _, a, fun x m1 w1 H1 v l1 h1 r1 q1 => ?_, h⟩
  exact ⟨w1, ρ, m1, Ψ, _, a.to l1 h1, fun ds m2 w2 H2 vs l2 h2 r2 q2 => vl (x :: ds) m2 w2 H2 _ (l1.trans l2) h2 ⟨v, vs, rfl, Rep.mono l2 _ _ r1, r2⟩ q2, q1⟩
abbrev LIM : Nat := 16777216
theorem lim_sz {n : Nat} (h : n ≤ LIM) : n ≤ sizeLine := by rw [sizeLine_eq]; exact h
theorem lim_lt {n : Nat} (h : n < LIM) : n < sizeLine := by rw [sizeLine_eq]; exact h
def dLst (r : DA) : DE := fun ρ m Φ Ψ => r ρ m (fun ds m1 => ds.length ≤ LIM ∧ Φ (.lst ds) m1) Ψ
def dTup (r : DA) : DE := fun ρ m Φ Ψ => r ρ m (fun ds m1 => ds.length ≤ LIM ∧ Φ (.tup ds) m1) Ψ
def dLstM (r : DA) : DE := fun ρ m Φ Ψ => r ρ m (fun ds m1 => ds.length ≤ LIM ∧ Φ (.hnd m1.M.length) (m1.push (.lst ds))) Ψ
theorem je_lst (h : JA X E es Ws) : JE X E (.List es pos) (dLst Ws) := PE.imp (pe_lst h) fun σ H Q ⟨w, ρ, m, Ψ, Φ, a, vl, h⟩ =>
  ⟨w, ρ, m, Ψ, _, a, fun ds m1 w1 H1 vs l1 h1 r1 ⟨z, q1⟩ => ⟨lim_sz (by rw [r1.length]; exact z), fun p hp => vl _ m1 _ _ _ (l1.trans (Wd.le_put (h1.nof hp))) (h1.put hp) (rep_put_lst h1 hp r1) q1⟩, h⟩
theorem je_tup {x1} (h : JA X E es Ws) : JE X E (.Tuple es x1 pos) (dTup Ws) := PE.imp (pe_tup h) fun σ H Q ⟨w, ρ, m, Ψ, Φ, a, vl, h⟩ =>
  ⟨w, ρ, m, Ψ, _, a, fun ds m1 w1 H1 vs l1 h1 r1 ⟨z, q1⟩ => ⟨lim_sz (by rw [r1.length]; exact z), fun p hp => vl _ m1 _ _ _ (l1.trans (Wd.le_put (h1.nof hp))) (h1.put hp) (rep_put_tup h1 hp r1) q1⟩, h⟩
theorem je_lstM (h : JA X E es Ws) : JE X E (.List es pos) (dLstM Ws) := PE.imp (pe_lst h) fun σ H Q ⟨w, ρ, m, Ψ, Φ, a, vl, h⟩ =>
  ⟨w, ρ, m, Ψ, _, a, fun ds m1 w1 H1 vs l1 h1 r1 ⟨z, q1⟩ => ⟨lim_sz (by rw [r1.length]; exact z), fun p hp => vl _ _ _ _ _ (l1.trans Wd.le_add) (h1.add (o := .lst ds) hp ⟨vs, upd_same, RepAll.mono Wd.le_add _ _ r1⟩) (rep_add h1) q1⟩, h⟩

/-! ### calls -/
/-- what a def is worth: arguments, store, wanted end, wanted exception -/
abbrev DC := List D → MM → (D → MM → Prop) → XP → Prop
def spOf (K : PySem.W.Frag) (n : Nat) (C : DC) : Sp := fun vs H Q E => vs.length = n ∧ ∃ w ds m Φ Ψ, HRep K w m H ∧ RepAll K w ds vs ∧ VLift K w Q Φ ∧ XLift K w (fun cls d _ H => E cls d H) [] Ψ ∧ C ds m Φ Ψ
def dCall (n : Nat) (C : DC) (r : DA) : DE := fun ρ m Φ Ψ => r ρ m (fun ds m1 => ds.length = n ∧ C ds m1 Φ Ψ) Ψ
variable {k n : Nat} {f : Addr} {fd : FuncData} {ps : List Str} {C : DC} {x : Str} {p : Pos}
theorem call_ok {w : Wd} {ρ : Env} {m : MM} {Ψ : XP} {Φ : D → MM → Prop} {σ : L2.St} {H : Hp} {Q : VK} {ds : List D} {vs : List V} (a : At X.K E w σ H ρ m Ψ) (vl : VLift X.K w Q Φ) (r : RepAll X.K w ds vs) (hn : ds.length = n) (c : C ds m Φ Ψ) :
    spOf X.K n C (vs ++ []) H Q (WE E σ) := by
  rw [List.append_nil]
  exact ⟨r.length.trans hn, w, ds, m, Φ, Ψ, a.h, r, vl, fun C fs m' w' H' d xs l h b c q => a.x C fs m' w' H' d xs l h b c q, c⟩
theorem je_call {e : Expr} (tk : Takes X E) (F : FnOk X.prog X.w X.K X.mg X.base (L2.CX X.prog X.w) k f fd ps (spOf X.K n C)) (hr : Room k X.A) (hg : Gl X x) (hm : X.mg x = some (.ref f)) (hk : PySem.W.keepIn X.K (.ref f) = true) (hb : Binds X.K fd ps [])
    (ha : JA X E (e :: es) Ws) (hdb : (x == ("__debug__" : Str)) = false := by decide) (he : starEach (e :: es) X.env = (false, eval e X.env) :: starEach es X.env := by rfl) (hpl : (backTo pos (starEach es X.env)).any (·.1) = false := by rfl) :
    JE X E (.Call (.Name x p) (e :: es) [] pos) (dCall n C Ws) := PE.imp (pe_callS F hr hg hm hk hb (fun σ => passAt tk σ) ha hdb he hpl) fun σ H Q ⟨w, ρ, m, Ψ, Φ, a, vl, h⟩ =>
  ⟨w, ρ, m, Ψ, _, a, fun ds m1 w1 H1 vs l1 h1 r1 ⟨hn, q1⟩ => by
    have z := call_ok (C := C) (a.to l1 h1) (vl.mono l1) r1 hn q1
    rw [List.append_nil] at z
    exact z, h⟩
end
end Dl

namespace Dl
open PySem L2 PyProof.Rows

/-! ### statements -/
def dNext : DS := fun N _ ρ m => N.nx ρ m
def dSeq (t u : DS) : DS := fun N Ψ ρ m => t { N with nx := u N Ψ } Ψ ρ m
def dDrop (e : DE) : DS := fun N Ψ ρ m => e ρ m (fun _ m1 => N.nx ρ m1) (Ψ ρ)
def dRet (e : DE) : DS := fun N Ψ ρ m => e ρ m N.rt (Ψ ρ)
def dRetN : DS := fun N _ _ m => N.rt .non m
def dIf (c : DT) (t u : DS) : DS := fun N Ψ ρ m => c ρ m (fun b m1 => if b = true then t N Ψ ρ m1 else u N Ψ ρ m1) (Ψ ρ)
def dSet (i : Nat) (e : DE) : DS := fun N Ψ ρ m => e ρ m (fun d m1 => N.nx (ρ.set i (some d)) m1) (Ψ ρ)
/-- targets -/
abbrev DG := D → Env → MM → (Env → MM → Prop) → Prop
def dgName (i : Nat) : DG := fun d ρ m k => k (ρ.set i (some d)) m
def bindD : List Nat → List D → Env → Env
  | i :: is, d :: ds, ρ => bindD is ds (ρ.set i (some d))
  | _, _, ρ => ρ
def asT : D → Option (List D)
  | .tup ds => some ds
  | .rot ds => some ds
  | _ => none
def dgTup (is : List Nat) : DG := fun d ρ m k => match asT d with
  | some ds => ds.length = is.length ∧ k (bindD is ds ρ) m
  | none => False
def dAsg (e : DE) (g : DG) : DS := fun N Ψ ρ m => e ρ m (fun d m1 => g d ρ m1 N.nx) (Ψ ρ)
def dAug (i : Nat) (o : DO) (e : DE) : DS := fun N Ψ ρ m => match ρ[i]? with
  | some (some x) => e ρ m (fun y m1 => o x y m1 (fun z m2 => N.nx (ρ.set i (some z)) m2)) (Ψ ρ)
  | _ => False
/-- iteration -/
abbrev DI := Env → MM → (List D → MM → Prop) → XP → Prop
def forW (g : DG) (body : DS) (N : DN) (Ψ : XS) : List D → Env → MM → Prop
  | [], ρ, m => N.nx ρ m
  | d :: ds, ρ, m => g d ρ m fun ρ1 m1 => body { N with nx := forW g body N Ψ ds, ct := forW g body N Ψ ds, bk := N.nx } Ψ ρ1 m1
def dFor (it : DI) (g : DG) (body : DS) : DS := fun N Ψ ρ m => it ρ m (fun ds m1 => forW g body N Ψ ds ρ m1) (Ψ ρ)
def dWhile (c : DT) (body : DS) : DS := fun N Ψ ρ m => ∃ W : Nat → Env → MM → Prop, (∃ n, W n ρ m) ∧ ∀ n ρ m, W n ρ m →
  c ρ m (fun b m1 => if b = true then body { N with nx := fun ρ' m' => ∃ n', n' < n ∧ W n' ρ' m', ct := fun ρ' m' => ∃ n', n' < n ∧ W n' ρ' m', bk := N.nx } Ψ ρ m1 else N.nx ρ m1) (Ψ ρ)

section
variable {X : Cx} {E : WX} {a b c : Expr} {Wa Wb Wc : DE} {pos : Pos} {st : Stmt} {rest body : List Stmt} {t u : DS} {tc : DT}
theorem NLift.with {K : PySem.W.Frag} {w : Wd} {D : Ends} {N : DN} (h : NLift K w D N) {q : L2.St → Hp → Prop} {f : Env → MM → Prop} (s : SLift K w q f) : NLift K w { D with nx := q } { N with nx := f } := ⟨s, h.rt, h.bk, h.ct⟩
theorem jss_nil : JSs X E [] dNext := PSs.imp pss_nil fun D σ H ⟨w, ρ, m, Ψ, N, a, n, h⟩ => n.nx ρ m w H σ (.refl w) a.h a.s h
theorem jss_cons (h1 : JS X E st t) (h2 : JSs X E rest u) : JSs X E (st :: rest) (dSeq t u) := PSs.imp (pss_cons h1 h2) fun D σ H ⟨w, ρ, m, Ψ, N, a, n, h⟩ =>
  ⟨w, ρ, m, Ψ, { N with nx := u N Ψ }, a, n.with fun ρ' m' w' H' σ' l h' s' q => ⟨w', ρ', m', Ψ, N, ⟨h', s', a.x.mono l⟩, n.mono l, q⟩, h⟩
theorem jss_one (h1 : JS X E st t) : JSs X E [st] t := pss_one h1
theorem js_expr (he : JE X E a Wa) (hs : swapsWith a none pos.line X.env = pure false := by rfl) : JS X E (.Expr a pos) (dDrop Wa) := PS.imp (ps_expr he hs) fun D σ H ⟨w, ρ, m, Ψ, N, a, n, h⟩ =>
  ⟨w, ρ, m, Ψ ρ, _, a.at, fun d m1 w1 H1 v l1 h1 r1 q1 => n.nx ρ m1 w1 H1 σ l1 h1 (a.s.mono l1) q1, h⟩
theorem js_ret (he : JE X E a Wa) : JS X E (.Return (some a) pos) (dRet Wa) := PS.imp (ps_ret he) fun D σ H ⟨w, ρ, m, Ψ, N, a, n, h⟩ => ⟨w, ρ, m, Ψ ρ, _, a.at, n.rt, h⟩
theorem js_if {A B : List Stmt} (hc : JT X E c tc) (ha : JSs X E A t) (hb : JSs X E B u) : JS X E (.If c A B pos) (dIf tc t u) := PS.imp (ps_if hc ha hb) fun D σ H ⟨w, ρ, m, Ψ, N, a, n, h⟩ => by
  refine ⟨w, ρ, m, Ψ ρ, _, a.at, fun b m1 w1 H1 l1 h1 q1 => ?_, h⟩
  cases b with
  | true => exact ⟨w1, ρ, m1, Ψ, N, a.to l1 h1, n.mono l1, q1⟩
  | false => exact ⟨w1, ρ, m1, Ψ, N, a.to l1 h1, n.mono l1, q1⟩
theorem js_set (i : Nat) {x : Str} {pos' : Pos} (hN : X.N.Nodup) (hi : X.N[i]? = some x) (hx : Loc X.env.scope x) (he : JE X E a Wa) (hs : swapsWith a (some (.Name x pos')) pos.line X.env = pure false := by rfl)
    (hf : X.fn x = true ∨ X.env.scope.names.lookup x = some .local := by first | exact .inl rfl | exact .inr rfl | assumption) : JS X E (.Assign [.Name x pos'] a pos) (dSet i Wa) := PS.imp (ps_set hN hi hx he hs hf) fun D σ H ⟨w, ρ, m, Ψ, N, a, n, h⟩ =>
  ⟨w, ρ, m, Ψ ρ, _, a.at, fun d m1 w1 H1 v l1 h1 r1 q1 => n.nx _ m1 w1 H1 _ l1 h1 ((a.s.mono l1).set i r1) q1, h⟩

/-! targets -/
def liftG (K : PySem.W.Frag) (js : List Nat) (G : DG) : TG := fun v σ H Q => ∃ w ρ m d k, HRep K w m H ∧ Slots K w σ ρ ∧ Rep K w d v ∧ (∀ ρ' m' w' H' σ', w.le w' → HRep K w' m' H' → Slots K w' σ' ρ' → wipe σ' js = wipe σ js → k ρ' m' → Q σ' H') ∧ G d ρ m k
theorem PG.imp {e : Expr} {t t' : TG} (h : PG X e t) (i : ∀ v σ H Q, t' v σ H Q → t v σ H Q) : PG X e t' := ⟨fun pins s σ H x v Q I r q => h.run pins s σ H x v Q I r (i x σ H Q q)⟩
theorem wipe_get {σ : L2.St} {js : List Nat} {i : Nat} : (wipe σ js)[i]? = if i ∈ js ∧ i < σ.length then some none else σ[i]? := by
  induction js with
  | nil => simp [wipe]
  | cons j js ih =>
    show ((wipe σ js).set j none)[i]? = _
    by_cases h : j = i
    · subst h
      by_cases hl : j < σ.length
      · rw [List.getElem?_set_self (by rw [wipe_length]; exact hl), if_pos ⟨List.mem_cons_self, hl⟩]
      · rw [List.getElem?_eq_none (by rw [List.length_set, wipe_length]; omega), if_neg (fun z => hl z.2), List.getElem?_eq_none (by omega)]
    · rw [List.getElem?_set_ne h, ih]
      have e : (i ∈ j :: js ∧ i < σ.length) ↔ (i ∈ js ∧ i < σ.length) := by
        constructor
        · rintro ⟨z, q⟩
          rcases List.mem_cons.mp z with z | z
          · exact absurd z.symm h
          · exact ⟨z, q⟩
        · rintro ⟨z, q⟩; exact ⟨List.mem_cons_of_mem _ z, q⟩
      by_cases q : i ∈ js ∧ i < σ.length
      · rw [if_pos q, if_pos (e.mpr q)]
      · rw [if_neg q, if_neg (fun z => q (e.mp z))]
theorem wipe_set {σ : L2.St} {js : List Nat} {i : Nat} {v : Option V} (h : i ∈ js) : wipe (σ.set i v) js = wipe σ js := by
  apply List.ext_getElem?
  intro j
  rw [wipe_get, wipe_get, List.length_set]
  by_cases q : j ∈ js ∧ j < σ.length
  · rw [if_pos q, if_pos q]
  · rw [if_neg q, if_neg q]
    by_cases e : i = j
    · subst e
      have hl : ¬ i < σ.length := fun z => q ⟨h, z⟩
      rw [List.getElem?_eq_none (by rw [List.length_set]; omega), List.getElem?_eq_none (by omega)]
    · rw [List.getElem?_set_ne e]
theorem wipe_wipe {σ : L2.St} {js : List Nat} : wipe (wipe σ js) js = wipe σ js := by
  apply List.ext_getElem?
  intro j
  rw [wipe_get, wipe_get, wipe_length]
  by_cases q : j ∈ js ∧ j < σ.length
  · simp [q]
  · simp [q]
theorem jg_name (i : Nat) {x : Str} {pos : Pos} {js : List Nat} (hj : i ∈ js) (hN : X.N.Nodup) (hi : X.N[i]? = some x) (hx : Loc X.env.scope x) (hf : X.fn x = true ∨ X.env.scope.names.lookup x = some .local := by first | exact .inl rfl | exact .inr rfl | assumption) :
    PG X (.Name x pos) (liftG X.K js (dgName i)) := PG.imp (pg_name hN hi hx hf) fun v σ H Q ⟨w, ρ, m, d, k, h, s, r, n, q⟩ => n _ m w H _ (.refl w) h (s.set i r) (wipe_set hj) q
def gNames : List Nat → TGs
  | [] => gNil
  | i :: is => gCons (gName i) (gNames is)
theorem gNames_ok {K : PySem.W.Frag} {w : Wd} {H : Hp} {js : List Nat} : ∀ (is : List Nat), (∀ i ∈ is, i ∈ js) → ∀ (ds : List D) (vs : List V) (σ : L2.St) (ρ : Env) (Q : L2.St → Hp → Prop), ds.length = is.length → RepAll K w ds vs → Slots K w σ ρ →
    (∀ σ', Slots K w σ' (bindD is ds ρ) → wipe σ' js = wipe σ js → Q σ' H) → gNames is vs σ H Q
  | [], _, [], vs, σ, ρ, Q, _, r, s, q => by
    have e : vs = [] := r
    subst e
    exact ⟨rfl, q σ s rfl⟩
  | i :: is, hj, d :: ds, vs, σ, ρ, Q, hl, r, s, q => by
    obtain ⟨v, r', rfl, rv, rr⟩ := r
    refine ⟨v, r', rfl, ?_⟩
    refine gNames_ok is (fun j h => hj j (List.mem_cons_of_mem _ h)) ds r' _ (ρ.set i (some d)) Q (by simpa using hl) rr (s.set i rv) fun σ' s' e => q σ' s' (e.trans (wipe_set (hj i List.mem_cons_self)))
theorem asT_ok {K : PySem.W.Frag} {w : Wd} {m : MM} {H : Hp} {d : D} {ds : List D} {v : V} (h : HRep K w m H) (e : asT d = some ds) (r : Rep K w d v) : ∃ a xs, v = .ref a ∧ SqT K H a xs ∧ RepAll K w ds xs := by
  cases d with
  | tup es => cases e; obtain ⟨a, xs, e, q, r⟩ := r; exact ⟨a, xs, e, .inl (.inl (h.ext _ _ q)), r⟩
  | rot es => cases e; obtain ⟨a, xs, e, q, r⟩ := r; exact ⟨a, xs, e, sqt_mono h.ext q, r⟩
  | _ => cases e
theorem jg_tup {es : List Expr} {k : Nat} (is : List Nat) {js : List Nat} {pos : Pos} (hc : X.calm = true) (hj : ∀ i ∈ is, i ∈ js) (h : PGs X es (gNames is)) (hn : (assignEach es X.env).length = is.length := by rfl)
    (hst : (assignEach es X.env).findIdx? (·.1) = none := by rfl) : PG X (.Tuple es k pos) (liftG X.K js (dgTup is)) := PG.imp (pg_tup hc h hn hst) fun v σ H Q ⟨w, ρ, m, d, k, h, s, r, n, q⟩ => by
  unfold dgTup at q
  split at q
  · rename_i ds e
    obtain ⟨a, xs, rfl, hq, rr⟩ := asT_ok h e r
    exact ⟨a, xs, rfl, hq, rr.length.trans q.1, gNames_ok is hj ds xs σ ρ _ q.1 rr s fun σ' s' e => n _ m w H σ' (.refl w) h s' e q.2⟩
  · exact q.elim
theorem js_asg {tg : Expr} {g : DG} {js : List Nat} (he : JE X E a Wa) (hg : PG X tg (liftG X.K js g)) (hs : swapsWithSole [tg] a pos.line X.env = pure false := by rfl) (hw : swappedStores [tg] a X.env = pure none := by rfl) (h1 : (assignEach [tg] X.env).map (·.2) = [assign tg X.env] := by rfl) : JS X E (.Assign [tg] a pos) (dAsg Wa g) :=
  PS.imp (ps_asg he hg hs hw h1) fun D σ H ⟨w, ρ, m, Ψ, N, a, n, h⟩ =>
    ⟨w, ρ, m, Ψ ρ, _, a.at, fun d m1 w1 H1 v l1 h1 r1 q1 => ⟨w1, ρ, m1, d, _, h1, a.s.mono l1, r1, fun ρ' m' w' H' σ' l h' s' _ q => n.nx ρ' m' w' H' σ' (l1.trans l) h' s' q, q1⟩, h⟩
theorem js_aug (i : Nat) {x : Str} {op : Operator} {r : R2} {o : DO} {pos' : Pos} (hN : X.N.Nodup) (hi : X.N[i]? = some x) (hx : Loc X.env.scope x) (he : JE X E a Wa) (ho : OpR X (inplaceOp op) r) (hl : OpL X.K r o)
    (hf : X.fn x = true ∨ X.env.scope.names.lookup x = some .local := by first | exact .inl rfl | exact .inr rfl | assumption) : JS X E (.AugAssign (.Name x pos') op a pos) (dAug i o Wa) :=
  PS.imp (ps_aug hN hi hx he (fun pins s σ H x y v u Q I rx ry q => ho pins s σ H x y v u Q I rx ry q) hf) fun D σ H ⟨w, ρ, m, Ψ, N, a, n, h⟩ => by
  unfold dAug at h
  split at h
  · rename_i d e
    obtain ⟨v, e1, r1⟩ := a.s.2 i d e
    refine ⟨v, e1, w, ρ, m, Ψ ρ, _, a.at, fun y m1 w1 H1 u l1 h1 r2 q1 => ?_, h⟩
    exact hl w1 m1 H1 d y v u _ _ h1 (Rep.mono l1 _ _ r1) r2 (fun z m2 w2 H2 zv l2 h2 r3 q2 => n.nx _ m2 w2 H2 _ (l1.trans l2) h2 ((a.s.mono (l1.trans l2)).set i r3) q2) q1
  · exact h.elim

/-! ### loops -/
theorem js_while {c : Expr} (hp : PassesOwn (model X.prog X.w) X.A X.env X.xe) (hc : JT X E c tc) (hb : JSs X E body t) : JS X E (.While c body [] pos) (dWhile tc t) := PS.imp (ps_while hp hc hb) fun D σ H ⟨w, ρ, m, Ψ, N, a, n, h⟩ => by
  obtain ⟨W, ⟨n0, w0⟩, hw⟩ := h
  refine ⟨fun k σ H => ∃ w' ρ m, w.le w' ∧ AtS X.K E w' σ H ρ m Ψ ∧ W k ρ m, ⟨n0, w, ρ, m, .refl w, a, w0⟩, ?_⟩
  rintro k σ1 H1 ⟨w1, ρ1, m1, l1, a1, q1⟩
  refine ⟨w1, ρ1, m1, Ψ ρ1, _, a1.at, fun b m2 w2 H2 l2 h2 q2 => ?_, hw k ρ1 m1 q1⟩
  have a2 := a1.to l2 h2
  cases b with
  | true =>
    show (if true = true then _ else _)
    rw [if_pos rfl]
    refine ⟨fun σ' H' => ∃ k', k' < k ∧ ∃ w' ρ m, w.le w' ∧ AtS X.K E w' σ' H' ρ m Ψ ∧ W k' ρ m, fun σ' H' z => z, w2, ρ1, m2, Ψ, _, a2, ?_, q2⟩
    have n2 := n.mono (l1.trans l2)
    have go : SLift X.K w2 (fun σ' H' => ∃ k', k' < k ∧ ∃ w' ρ m, w.le w' ∧ AtS X.K E w' σ' H' ρ m Ψ ∧ W k' ρ m) (fun ρ' m' => ∃ n', n' < k ∧ W n' ρ' m') := fun ρ' m' w' H' σ' l h' s' ⟨k', lt, q⟩ =>
      ⟨k', lt, w', ρ', m', (l1.trans l2).trans l, ⟨h', s', a2.x.mono l⟩, q⟩
    exact ⟨go, n2.rt, n2.nx, go⟩
  | false =>
    show (if false = true then _ else _)
    rw [if_neg Bool.false_ne_true]
    exact n.nx ρ1 m2 w2 H2 σ1 (l1.trans l2) h2 a2.s q2

/-- an iterator gives just these -/
structure Wlk (K : PySem.W.Frag) (w0 : Wd) (J : It) (ds : List D) : Prop where
  go : ∀ w m H (i : Nat) d, w0.le w → HRep K w m H → ds[i]? = some d → J.go i H
  stop : ∀ w m H, w0.le w → HRep K w m H → J.stop ds.length H
  yld : ∀ w m H (i : Nat) d x H', w0.le w → HRep K w m H → ds[i]? = some d → J.yld i H x H' → ∃ w', w.le w' ∧ HRep K w' m H' ∧ Rep K w' d x
def liftI (K : PySem.W.Frag) (E : WX) (W : DI) : TI := fun σ H R => ∃ w ρ m Ψ Φ, At K E w σ H ρ m Ψ ∧ (∀ ds m' w' H' J, w.le w' → HRep K w' m' H' → Wlk K w' J ds → Φ ds m' → R J H') ∧ W ρ m Φ Ψ
abbrev JI (X : Cx) (E : WX) (tg it : Expr) (W : DI) : Prop := PI X tg it (liftI X.K E W)
theorem PI.imp {tg e : Expr} {t t' : TI} (h : PI X tg e t) (i : ∀ σ H R, t' σ H R → t σ H R) : PI X tg e t' := ⟨fun pins s σ H R I q => h.run pins s σ H R I (i σ H R q)⟩
theorem js_for {tg iter : Expr} {wi : DI} {g : DG} {js : List Nat} (hp : PassesOwn (model X.prog X.w) X.A X.env X.xe) (hc : X.calm = true) (hi : JI X E tg iter wi) (hg : PG X tg (liftG X.K js g)) (hb : JSs X E body t)
    (hs : ∀ x, foldedSetIterable iter X.env x = pure x := by intro _; rfl) : JS X E (.For tg iter body [] pos) (dFor wi g t) := PS.imp (ps_for hp hc hi hg hb hs) fun D σ H ⟨w, ρ, m, Ψ, N, a, n, h⟩ => by
  refine ⟨w, ρ, m, Ψ ρ, _, a.at, fun ds m1 w1 H1 J l1 h1 wk q1 => ?_, h⟩
  refine ⟨fun i k σ H => k = ds.length - i ∧ i ≤ ds.length ∧ ∃ w' ρ m, w1.le w' ∧ AtS X.K E w' σ H ρ m Ψ ∧ forW g t N Ψ (ds.drop i) ρ m, ⟨ds.length, by omega, Nat.zero_le _, w1, ρ, m1, .refl w1, a.to l1 h1, q1⟩, ?_⟩
  rintro i k σ2 H2 ⟨rfl, hi, w2, ρ2, m2, l2, a2, q2⟩
  by_cases hlt : i < ds.length
  · have ed : ds[i]? = some ds[i] := List.getElem?_eq_getElem hlt
    have dr : ds.drop i = ds[i] :: ds.drop (i + 1) := List.drop_eq_getElem_cons hlt
    rw [dr] at q2
    refine .inr ⟨wk.go w2 m2 H2 i _ l2 a2.h ed, fun σ' H' => ∃ w' ρ m, w1.le w' ∧ AtS X.K E w' σ' H' ρ m Ψ ∧ forW g t N Ψ (ds.drop (i + 1)) ρ m, fun σ' H' z => ⟨ds.length - (i + 1), by omega, rfl, hlt, z⟩, fun x H3 y => ?_⟩
    obtain ⟨w3, l3, h3, r3⟩ := wk.yld w2 m2 H2 i _ x H3 l2 a2.h ed y
    refine ⟨w3, ρ2, m2, ds[i], _, h3, a2.s.mono l3, r3, fun ρ' m' w' H' σ' l h' s' _ q => ?_, q2⟩
    have l4 := l2.trans (l3.trans l)
    refine ⟨w', ρ', m', Ψ, _, ⟨h', s', a2.x.mono (l3.trans l)⟩, ?_, q⟩
    have n2 := n.mono (l1.trans l4)
    have go : SLift X.K w' (fun σ' H' => ∃ w' ρ m, w1.le w' ∧ AtS X.K E w' σ' H' ρ m Ψ ∧ forW g t N Ψ (ds.drop (i + 1)) ρ m) (forW g t N Ψ (ds.drop (i + 1))) := fun ρ5 m5 w5 H5 σ5 l5 h5 s5 q5 =>
      ⟨w5, ρ5, m5, l4.trans l5, ⟨h5, s5, a2.x.mono ((l3.trans l).trans l5)⟩, q5⟩
    exact ⟨go, n2.rt, n2.nx, go⟩
  · have e : i = ds.length := by omega
    subst e
    rw [List.drop_length] at q2
    exact .inl ⟨wk.stop w2 m2 H2 l2 a2.h, n.nx ρ2 m2 w2 H2 σ2 (l1.trans l2) a2.h a2.s q2⟩

/-! iterators -/
def moL : Option MO → Option (List D)
  | some (.lst ds) => some ds
  | _ => none
theorem moL_eq {o : Option MO} {ds : List D} (h : moL o = some ds) : o = some (.lst ds) := by
  cases o with
  | none => cases h
  | some o =>
    cases o with
    | lst es => cases h; rfl
    | _ => cases h
def asL (m : MM) : D → Option (List D)
  | .lst ds => some ds
  | .rol ds => some ds
  | .hnd k => moL m.M[k]?
  | _ => none
def asF : D → Option (List D)
  | .lst ds => some ds
  | .rol ds => some ds
  | _ => none
theorem asL_ok {K : PySem.W.Frag} {w : Wd} {m : MM} {H : Hp} {d : D} {ds : List D} {v : V} (h : HRep K w m H) (e : asL m d = some ds) (r : Rep K w d v) : ∃ a xs, v = .ref a ∧ SqL K H a xs ∧ RepAll K w ds xs := by
  cases d with
  | lst es => cases e; obtain ⟨a, xs, e, q, r⟩ := r; exact ⟨a, xs, e, .inl (.inl (h.ext _ _ q)), r⟩
  | rol es => cases e; obtain ⟨a, xs, e, q, r⟩ := r; exact ⟨a, xs, e, sql_mono h.ext q, r⟩
  | hnd k =>
    have q := moL_eq e
    obtain ⟨a, e, q2⟩ := r
    obtain ⟨xs, hx, rr⟩ := h.obj k a _ q2 q
    exact ⟨a, xs, e, .inl (.inl hx), rr⟩
  | _ => cases e
theorem asF_ok {K : PySem.W.Frag} {w : Wd} {d : D} {ds : List D} {v : V} (e : asF d = some ds) (r : Rep K w d v) : ∃ a xs, v = .ref a ∧ SqL K w.F a xs ∧ RepAll K w ds xs := by
  cases d with
  | lst es => cases e; obtain ⟨a, xs, e, q, r⟩ := r; exact ⟨a, xs, e, .inl (.inl q), r⟩
  | rol es => cases e; obtain ⟨a, xs, e, q, r⟩ := r; exact ⟨a, xs, e, q, r⟩
  | _ => cases e
def diList (e : DE) : DI := fun ρ m Φ Ψ => e ρ m (fun d m1 => match asF d with
  | some ds => Φ ds m1
  | none => False) Ψ
theorem wlk_list {K : PySem.W.Frag} {w : Wd} {a : Addr} {xs : List V} {ds : List D} (q : SqL K w.F a xs) (r : RepAll K w ds xs) : Wlk K w (Itl K a) ds where
  go := fun w1 m H i d l h e => by
    obtain ⟨v, e1, _⟩ := r.get e
    exact ⟨xs, v, sql_mono (fun a o z => h.ext a o (l.F a o z)) q, e1⟩
  stop := fun w1 m H l h => ⟨xs, sql_mono (fun a o z => h.ext a o (l.F a o z)) q, Nat.le_of_eq r.length⟩
  yld := fun w1 m H i d x H' l h e y => by
    obtain ⟨rfl, y⟩ := y
    obtain ⟨v, e1, rv⟩ := r.get e
    have z := y xs (sql_mono (fun a o z => h.ext a o (l.F a o z)) q)
    rw [e1] at z; cases z
    exact ⟨w1, .refl w1, h, Rep.mono l _ _ rv⟩
theorem ji_list {tg : Expr} (h : JE X E a Wa) : JI X E tg a (diList Wa) := PI.imp (pi_list h) fun σ H R ⟨w, ρ, m, Ψ, Φ, a, n, h⟩ => by
  refine ⟨w, ρ, m, Ψ, _, a, fun d m1 w1 H1 v l1 h1 r1 q1 => ?_, h⟩
  split at q1
  · rename_i ds e
    obtain ⟨a, xs, rfl, q, r⟩ := asF_ok e r1
    exact ⟨a, rfl, ⟨xs, sql_mono h1.ext q⟩, n ds m1 w1 H1 _ l1 h1 (wlk_list q r) q1⟩
  · exact q1.elim
def rngD (lo : Int) (n : Nat) : List D := (List.range n).map fun i => D.int (lo + (i : Nat))
theorem wlk_range {K : PySem.W.Frag} {w : Wd} {lo : Int} {n : Nat} : Wlk K w (Itr lo n) (rngD lo n) where
  go := fun w1 m H i d l h e => by
    have z := (List.getElem?_eq_some_iff.mp e).1
    show i < n
    simpa [rngD] using z
  stop := fun w1 m H l h => by show n ≤ (rngD lo n).length; simp [rngD]
  yld := fun w1 m H i d x H' l h e y => by
    obtain ⟨rfl, rfl⟩ := y
    have e' : d = D.int (lo + (i : Nat)) := by
      unfold rngD at e
      rw [List.getElem?_map] at e
      cases q : (List.range n)[i]? with
      | none => rw [q] at e; cases e
      | some j =>
        rw [q] at e
        have hj : j = i := by
          have := (List.getElem?_eq_some_iff.mp q).2
          simpa using this.symm
        subst hj
        exact (Option.some.inj e).symm
    subst e'
    exact ⟨w1, .refl w1, h, rfl⟩
def diRng1 (r : DA) : DI := fun ρ m Φ Ψ => r ρ m (fun ds m1 => match ds with
  | [.int j] => (-(2 ^ 62) ≤ j ∧ j < 2 ^ 62) ∧ Φ (rngD 0 j.toNat) m1
  | _ => False) Ψ
def diRng2 (r : DA) : DI := fun ρ m Φ Ψ => r ρ m (fun ds m1 => match ds with
  | [.int i, .int j] => (-(2 ^ 62) ≤ i ∧ i < 2 ^ 62 ∧ -(2 ^ 62) ≤ j ∧ j < 2 ^ 62) ∧ Φ (rngD i (j - i).toNat) m1
  | _ => False) Ψ
theorem rep1 {K : PySem.W.Frag} {w : Wd} {d : D} {vs : List V} (r : RepAll K w [d] vs) : ∃ v, vs = [v] ∧ Rep K w d v := by
  obtain ⟨v, r', rfl, a, b⟩ := r
  have e : r' = [] := b
  subst e; exact ⟨v, rfl, a⟩
theorem rep2 {K : PySem.W.Frag} {w : Wd} {d e : D} {vs : List V} (r : RepAll K w [d, e] vs) : ∃ v u, vs = [v, u] ∧ Rep K w d v ∧ Rep K w e u := by
  obtain ⟨v, r', rfl, a, b⟩ := r
  obtain ⟨u, rfl, c⟩ := rep1 b
  exact ⟨v, u, rfl, a, c⟩
theorem ji_range1 {tg : Expr} {Ws : DA} {p : Pos} (hg : Gl X "range") (hm : X.mg "range" = none) (ha : JA X E [a] Ws) (hs : starEach [a] X.env = [(false, eval a X.env)] := by rfl) : JI X E tg (.Call (.Name "range" p) [a] [] pos) (diRng1 Ws) :=
  PI.imp (pi_range1 hg hm ha hs) fun σ H R ⟨w, ρ, m, Ψ, Φ, a, n, h⟩ => by
  refine ⟨w, ρ, m, Ψ, _, a, fun ds m1 w1 H1 vs l1 h1 r1 q1 => ?_, h⟩
  split at q1
  · obtain ⟨v, rfl, rv⟩ := rep1 r1
    have e : v = .int _ := rv
    subst e
    exact ⟨_, rfl, q1.1.1, q1.1.2, n _ m1 w1 H1 _ l1 h1 wlk_range q1.2⟩
  · exact q1.elim
theorem ji_range2 {tg : Expr} {Ws : DA} {p : Pos} (hg : Gl X "range") (hm : X.mg "range" = none) (ha : JA X E [a, b] Ws) (hs : starEach [a, b] X.env = [(false, eval a X.env), (false, eval b X.env)] := by rfl)
    (hs2 : starEach [b] X.env = [(false, eval b X.env)] := by rfl) : JI X E tg (.Call (.Name "range" p) [a, b] [] pos) (diRng2 Ws) :=
  PI.imp (pi_range2 hg hm ha hs hs2) fun σ H R ⟨w, ρ, m, Ψ, Φ, a, n, h⟩ => by
  refine ⟨w, ρ, m, Ψ, _, a, fun ds m1 w1 H1 vs l1 h1 r1 q1 => ?_, h⟩
  split at q1
  · obtain ⟨v, u, rfl, rv, ru⟩ := rep2 r1
    have e : v = .int _ := rv
    have e2 : u = .int _ := ru
    subst e; subst e2
    exact ⟨_, _, rfl, q1.1, n _ m1 w1 H1 _ l1 h1 wlk_range q1.2⟩
  · exact q1.elim
end
end Dl

namespace Dl
open PySem L2 PyProof.Rows

theorem VLift.int {K : PySem.W.Frag} {w : Wd} {m : MM} {H : Hp} {Q : VK} {Φ : D → MM → Prop} {i : Int} (vl : VLift K w Q Φ) (h : HRep K w m H) (q : Φ (.int i) m) : Q (.int i) H := vl (.int i) m w H _ (.refl w) h rfl q
theorem VLift.bl {K : PySem.W.Frag} {w : Wd} {m : MM} {H : Hp} {Q : VK} {Φ : D → MM → Prop} {i : Bool} (vl : VLift K w Q Φ) (h : HRep K w m H) (q : Φ (.bl i) m) : Q (.bl i) H := vl (.bl i) m w H _ (.refl w) h rfl q
theorem VLift.str {K : PySem.W.Frag} {w : Wd} {m : MM} {H : Hp} {Q : VK} {Φ : D → MM → Prop} {i : Str} (vl : VLift K w Q Φ) (h : HRep K w m H) (q : Φ (.str i) m) : Q (.str i) H := vl (.str i) m w H _ (.refl w) h rfl q
theorem VLift.non {K : PySem.W.Frag} {w : Wd} {m : MM} {H : Hp} {Q : VK} {Φ : D → MM → Prop} (vl : VLift K w Q Φ) (h : HRep K w m H) (q : Φ .non m) : Q .non H := vl .non m w H _ (.refl w) h rfl q
theorem VLift.newL {K : PySem.W.Frag} {w : Wd} {m : MM} {H : Hp} {Q : VK} {Φ : D → MM → Prop} {ds : List D} {xs : List V} {p : Addr} (vl : VLift K w Q Φ) (h : HRep K w m H) (hp : H p = none) (r : RepAll K w ds xs) (q : Φ (.lst ds) m) : Q (.ref p) (upd H p (.lst xs)) :=
  vl _ m _ _ _ (Wd.le_put (h.nof hp)) (h.put hp) (rep_put_lst h hp r) q
/-! ### operations -/
def oI (C : Int → Int → Prop) (g : Int → Int → Int) : DO := fun x y m Φ => match x, y with
  | .int i, .int j => C i j ∧ Φ (.int (g i j)) m
  | _, _ => False
def oI0 (g : Int → Int → Int) : DO := fun x y m Φ => match x, y with
  | .int i, .int j => Φ (.int (g i j)) m
  | _, _ => False
def oB0 (g : Int → Int → Bool) : DO := fun x y m Φ => match x, y with
  | .int i, .int j => Φ (.bl (g i j)) m
  | _, _ => False
theorem opl_I {K : PySem.W.Frag} {C C' : Int → Int → Prop} {g : Int → Int → Int} (hC : ∀ i j, C i j → C' i j) : OpL K (rI C' fun i j => .int (g i j)) (oI C g) := fun w m H x y u v Q Φ h r1 r2 vl q => by
  cases x with
  | int i =>
    cases y with
    | int j => exact ⟨i, j, r1, r2, hC _ _ q.1, vl.int h q.2⟩
    | _ => exact False.elim q
  | _ => exact False.elim q
theorem opl_I0 {K : PySem.W.Frag} {g : Int → Int → Int} : OpL K (rI0 fun i j => .int (g i j)) (oI0 g) := fun w m H x y u v Q Φ h r1 r2 vl q => by
  cases x with
  | int i =>
    cases y with
    | int j => exact ⟨i, j, r1, r2, vl.int h q⟩
    | _ => exact False.elim q
  | _ => exact False.elim q
theorem opl_B0 {K : PySem.W.Frag} {g : Int → Int → Bool} : OpL K (rI0 fun i j => .bl (g i j)) (oB0 g) := fun w m H x y u v Q Φ h r1 r2 vl q => by
  cases x with
  | int i =>
    cases y with
    | int j => exact ⟨i, j, r1, r2, vl.bl h q⟩
    | _ => exact False.elim q
  | _ => exact False.elim q
/-- a product: one factor below 2 ^ 64, or both below 2 ^ 400000 -/
def MulC (i j : Int) : Prop := (-(2 ^ 64) < i ∧ i < 2 ^ 64) ∨ (-(2 ^ 64) < j ∧ j < 2 ^ 64) ∨ CMulW i j
theorem op_mulC {X : Cx} : OpR X (binaryOp .Mult) (rI MulC fun i j => .int (i * j)) := fun pins s σ H x y v u Q I rx ry h => by
  obtain ⟨i, j, e1, e2, hc, q⟩ := h
  rcases hc with hc | hc | hc
  · exact op_mul pins s σ H x y v u Q I rx ry ⟨i, j, e1, e2, .inl hc, q⟩
  · exact op_mul pins s σ H x y v u Q I rx ry ⟨i, j, e1, e2, .inr hc, q⟩
  · exact op_mulW pins s σ H x y v u Q I rx ry ⟨i, j, e1, e2, hc, q⟩
def DivC (_ j : Int) : Prop := 0 < j ∧ j < 2 ^ 64
theorem divC_ok {i j : Int} (h : DivC i j) : CDivW i j := wide_div h.1 (b := 64) (by have := h.1; have := h.2; omega) (by decide) (by decide)
def ModC (_ j : Int) : Prop := 0 < j
/-- tracked lists -/
def asK (m : MM) : D → Option (List D)
  | .lst ds => some ds
  | .hnd k => moL m.M[k]?
  | _ => none
theorem asK_ok {K : PySem.W.Frag} {w : Wd} {m : MM} {H : Hp} {d : D} {ds : List D} {v : V} (h : HRep K w m H) (e : asK m d = some ds) (r : Rep K w d v) : ∃ a xs, v = .ref a ∧ H a = some (.lst xs) ∧ RepAll K w ds xs := by
  cases d with
  | lst es => cases e; obtain ⟨a, xs, e, q, r⟩ := r; exact ⟨a, xs, e, h.ext _ _ q, r⟩
  | hnd k =>
    have q := moL_eq e
    obtain ⟨a, e, q2⟩ := r
    obtain ⟨xs, hx, rr⟩ := h.obj k a _ q2 q
    exact ⟨a, xs, e, hx, rr⟩
  | _ => cases e
def rStrA : R2 := fun x y H Q => ∃ i j, x = .str i ∧ y = .str j ∧ i.length + j.length ≤ sizeLine ∧ Q (.str (i ++ j)) H
def rAddAll (K : PySem.W.Frag) : R2 := fun x y H Q => (rI0 fun i j => .int (i + j)) x y H Q ∨ rStrA x y H Q ∨ rCat x y H Q ∨ rCatT K x y H Q
theorem op_addAll {X : Cx} : OpR X (binaryOp .Add) (rAddAll X.K) := op_add.or (op_add_str.or (op_cat.or op_catT))
def oAdd : DO := fun x y m Φ => match x, y with
  | .int i, .int j => Φ (.int (i + j)) m
  | .str i, .str j => i.length + j.length ≤ LIM ∧ Φ (.str (i ++ j)) m
  | .tup xs, .tup ys => xs ≠ [] ∧ ys ≠ [] ∧ xs.length + ys.length ≤ LIM ∧ Φ (.tup (xs ++ ys)) m
  | .lst xs, .lst ys => xs.length + ys.length ≤ LIM ∧ Φ (.lst (xs ++ ys)) m
  | x, y => match asK m x, asK m y with
    | some xs, some ys => xs.length + ys.length ≤ LIM ∧ Φ (.lst (xs ++ ys)) m
    | _, _ => False
theorem cat_ok {K : PySem.W.Frag} {w : Wd} {m : MM} {H : Hp} {x y : D} {xs ys : List D} {u v : V} {Q : VK} {Φ : D → MM → Prop} (h : HRep K w m H) (e1 : asK m x = some xs) (e2 : asK m y = some ys) (r1 : Rep K w x u) (r2 : Rep K w y v) (vl : VLift K w Q Φ)
    (z : xs.length + ys.length ≤ LIM) (q : Φ (.lst (xs ++ ys)) m) : rCat u v H Q := by
  obtain ⟨a, us, rfl, ha, ra⟩ := asK_ok h e1 r1
  obtain ⟨b, vs, rfl, hb, rb⟩ := asK_ok h e2 r2
  refine ⟨a, b, us, vs, rfl, rfl, ha, hb, lim_sz (by rw [ra.length, rb.length]; exact z), fun p hp => ?_⟩
  exact vl _ m _ _ _ (Wd.le_put (h.nof hp)) (h.put hp) (rep_put_lst h hp (ra.append rb)) q
theorem opl_add {K : PySem.W.Frag} : OpL K (rAddAll K) oAdd := fun w m H x y u v Q Φ h r1 r2 vl q => by
  unfold oAdd at q
  split at q
  · exact .inl ⟨_, _, r1, r2, vl.int h q⟩
  · exact .inr (.inl ⟨_, _, r1, r2, lim_sz q.1, vl.str h q.2⟩)
  · obtain ⟨a, us, rfl, ha, ra⟩ := r1
    obtain ⟨b, vs, rfl, hb, rb⟩ := r2
    obtain ⟨q1, q2, q3, q4⟩ := q
    have n1 : us ≠ [] := fun z => by subst z; have := ra.length; exact q1 (List.length_eq_zero_iff.mp this.symm)
    have n2 : vs ≠ [] := fun z => by subst z; have := rb.length; exact q2 (List.length_eq_zero_iff.mp this.symm)
    refine .inr (.inr (.inr ⟨a, b, us, vs, rfl, rfl, .inl (.inl (h.ext _ _ ha)), .inl (.inl (h.ext _ _ hb)), n1, lim_sz (by rw [ra.length, rb.length]; exact q3), fun z => absurd z n2, fun _ p hp => ?_⟩))
    exact vl _ m _ _ _ (Wd.le_put (h.nof hp)) (h.put hp) (rep_put_tup h hp (ra.append rb)) q4
  · exact .inr (.inr (.inl (cat_ok h (x := .lst _) (y := .lst _) rfl rfl r1 r2 vl q.1 q.2)))
  · split at q
    · rename_i e1 e2
      exact .inr (.inr (.inl (cat_ok h e1 e2 r1 r2 vl q.1 q.2)))
    · exact q.elim

/-! equality -/
mutual
def toPy : D → PyData
  | .bl b => .bool b
  | .int i => .int i
  | .str x => .str x
  | .lst ds => .list (toPys ds)
  | .rol ds => .list (toPys ds)
  | .tup ds => .tuple (toPys ds)
  | .rot ds => .tuple (toPys ds)
  | _ => .none
def toPys : List D → List PyData
  | [] => []
  | d :: ds => toPy d :: toPys ds
end
mutual
def okE (n : Nat) : D → Bool
  | .non => true
  | .bl _ => true
  | .int _ => true
  | .str x => PyData.strOk x
  | .lst ds => decide (0 < n) && okEs (n - 1) ds
  | .rol ds => decide (0 < n) && okEs (n - 1) ds
  | .tup ds => decide (0 < n) && okEs (n - 1) ds
  | .rot ds => decide (0 < n) && okEs (n - 1) ds
  | _ => false
def okEs (n : Nat) : List D → Bool
  | [] => true
  | d :: ds => okE n d && okEs n ds
end

section
variable {K : PySem.W.Frag} {w : Wd} {m : MM} {H : Hp}
mutual
theorem dp_of (h : HRep K w m H) : ∀ (d : D) (v : V) (n : Nat), Rep K w d v → okE n d = true → Dp K H v (toPy d)
  | .non, _, _, r, _ => by cases (show _ = V.non from r); exact .non
  | .bl b, _, _, r, _ => by cases (show _ = V.bl b from r); exact .bl b
  | .int i, _, _, r, _ => by cases (show _ = V.int i from r); exact .int i
  | .str x, _, _, r, _ => by cases (show _ = V.str x from r); exact .str x
  | .lst ds, _, n, ⟨a, xs, e, q, r⟩, o => by
    subst e
    have o : (decide (0 < n) && okEs (n - 1) ds) = true := o
    rw [Bool.and_eq_true] at o
    exact .lst (.inl (.inl (h.ext _ _ q))) (dps_of h ds xs (n - 1) r o.2)
  | .rol ds, _, n, ⟨a, xs, e, q, r⟩, o => by
    subst e
    have o : (decide (0 < n) && okEs (n - 1) ds) = true := o
    rw [Bool.and_eq_true] at o
    exact .lst (sql_mono h.ext q) (dps_of h ds xs (n - 1) r o.2)
  | .tup ds, _, n, ⟨a, xs, e, q, r⟩, o => by
    subst e
    have o : (decide (0 < n) && okEs (n - 1) ds) = true := o
    rw [Bool.and_eq_true] at o
    exact .tup (.inl (.inl (h.ext _ _ q))) (dps_of h ds xs (n - 1) r o.2)
  | .rot ds, _, n, ⟨a, xs, e, q, r⟩, o => by
    subst e
    have o : (decide (0 < n) && okEs (n - 1) ds) = true := o
    rw [Bool.and_eq_true] at o
    exact .tup (sqt_mono h.ext q) (dps_of h ds xs (n - 1) r o.2)
  | .ty _, _, _, _, o => nomatch o
  | .cls _, _, _, _, o => nomatch o
  | .hnd _, _, _, _, o => nomatch o
  | .st _, _, _, _, o => nomatch o
  | .exc _ _ _ _, _, _, _, o => nomatch o
theorem dps_of (h : HRep K w m H) : ∀ (ds : List D) (vs : List V) (n : Nat), RepAll K w ds vs → okEs n ds = true → DpAll K H vs (toPys ds)
  | [], _, _, r, _ => by cases (show _ = [] from r); exact .nil
  | d :: ds, _, n, ⟨v, r', e, a, b⟩, o => by
    subst e
    have o : (okE n d && okEs n ds) = true := o
    rw [Bool.and_eq_true] at o
    exact .cons (dp_of h d v n a o.1) (dps_of h ds r' n b o.2)
end
mutual
theorem okE_lay : ∀ (d : D) (n : Nat), okE n d = true → (toPy d).canLay0 = true ∧ (toPy d).depth ≤ n
  | .non, _, _ => ⟨rfl, Nat.zero_le _⟩
  | .bl b, _, _ => ⟨rfl, Nat.zero_le _⟩
  | .int i, _, _ => ⟨rfl, Nat.zero_le _⟩
  | .str x, _, o => ⟨o, Nat.zero_le _⟩
  | .lst ds, n, o => by
    have o : (decide (0 < n) && okEs (n - 1) ds) = true := o
    rw [Bool.and_eq_true] at o
    obtain ⟨h1, h2⟩ := okEs_lay ds (n - 1) o.2
    have h0 := of_decide_eq_true o.1
    exact ⟨h1, by show PyData.depthAll (toPys ds) + 1 ≤ n; omega⟩
  | .rol ds, n, o => by
    have o : (decide (0 < n) && okEs (n - 1) ds) = true := o
    rw [Bool.and_eq_true] at o
    obtain ⟨h1, h2⟩ := okEs_lay ds (n - 1) o.2
    have h0 := of_decide_eq_true o.1
    exact ⟨h1, by show PyData.depthAll (toPys ds) + 1 ≤ n; omega⟩
  | .tup ds, n, o => by
    have o : (decide (0 < n) && okEs (n - 1) ds) = true := o
    rw [Bool.and_eq_true] at o
    obtain ⟨h1, h2⟩ := okEs_lay ds (n - 1) o.2
    have h0 := of_decide_eq_true o.1
    exact ⟨h1, by show PyData.depthAll (toPys ds) + 1 ≤ n; omega⟩
  | .rot ds, n, o => by
    have o : (decide (0 < n) && okEs (n - 1) ds) = true := o
    rw [Bool.and_eq_true] at o
    obtain ⟨h1, h2⟩ := okEs_lay ds (n - 1) o.2
    have h0 := of_decide_eq_true o.1
    exact ⟨h1, by show PyData.depthAll (toPys ds) + 1 ≤ n; omega⟩
  | .ty _, _, o => nomatch o
  | .cls _, _, o => nomatch o
  | .hnd _, _, o => nomatch o
  | .st _, _, o => nomatch o
  | .exc _ _ _ _, _, o => nomatch o
theorem okEs_lay : ∀ (ds : List D) (n : Nat), okEs n ds = true → PyData.canLayAll0 (toPys ds) = true ∧ PyData.depthAll (toPys ds) ≤ n
  | [], _, _ => ⟨rfl, Nat.zero_le _⟩
  | d :: ds, n, o => by
    have o : (okE n d && okEs n ds) = true := o
    rw [Bool.and_eq_true] at o
    obtain ⟨h1, h2⟩ := okE_lay d n o.1
    obtain ⟨h3, h4⟩ := okEs_lay ds n o.2
    refine ⟨?_, ?_⟩
    · show (PyData.canLay0 (toPy d) && PyData.canLayAll0 (toPys ds)) = true
      rw [h1, h3]; rfl
    · show max (PyData.depth (toPy d)) (PyData.depthAll (toPys ds)) ≤ n
      omega
end
theorem okE_shaped {d : D} (o : okE 64 d = true) : SeqAt.shaped (toPy d) = true := by
  obtain ⟨h1, h2⟩ := okE_lay d 64 o
  unfold SeqAt.shaped
  rw [h1, decide_eq_true h2]; rfl
end
/-- == of data -/
def eqD (x y : D) : Bool := PyData.eqv (toPy x) (toPy y)
def oEq : DO := fun x y m Φ => okE 64 x = true ∧ okE 64 y = true ∧ Φ (.bl (eqD x y)) m
def oNe : DO := fun x y m Φ => okE 64 x = true ∧ okE 64 y = true ∧ Φ (.bl (!eqD x y)) m
theorem opl_eq {K : PySem.W.Frag} : OpL K (rEqD K) oEq := fun w m H x y u v Q Φ h r1 r2 vl ⟨o1, o2, q⟩ => ⟨_, _, dp_of h x u 64 r1 o1, dp_of h y v 64 r2 o2, okE_shaped o1, okE_shaped o2, vl.bl h q⟩
theorem opl_ne {K : PySem.W.Frag} : OpL K (rNeD K) oNe := fun w m H x y u v Q Φ h r1 r2 vl ⟨o1, o2, q⟩ => ⟨_, _, dp_of h x u 64 r1 o1, dp_of h y v 64 r2 o2, okE_shaped o1, okE_shaped o2, vl.bl h q⟩
theorem eqD_int {i j : Int} : eqD (.int i) (.int j) = decide (i = j) := by
  show (i == j) = _
  rw [Bool.beq_eq_decide_eq]
theorem eqD_bl {i j : Bool} : eqD (.bl i) (.bl j) = decide (i = j) := by
  show (i == j) = _
  rw [Bool.beq_eq_decide_eq]
theorem eqs_ints : ∀ {xs ys : List Int}, PyData.eqvAll (toPys (xs.map D.int)) (toPys (ys.map D.int)) = decide (xs = ys)
  | [], [] => rfl
  | [], y :: ys => by
    show false = _
    simp
  | x :: xs, [] => by
    show false = _
    simp
  | x :: xs, y :: ys => by
    show ((x == y) && PyData.eqvAll (toPys (xs.map D.int)) (toPys (ys.map D.int))) = _
    rw [eqs_ints, Bool.beq_eq_decide_eq]
    simp
theorem eqD_ints {xs ys : List Int} : eqD (.lst (xs.map D.int)) (.lst (ys.map D.int)) = decide (xs = ys) := eqs_ints
theorem okEs_ints {n : Nat} : ∀ {xs : List Int}, okEs n (xs.map D.int) = true
  | [] => rfl
  | x :: xs => by
    show (true && okEs n (xs.map D.int)) = true
    rw [okEs_ints]; rfl
theorem okE_ints {n : Nat} {xs : List Int} : okE (n + 1) (.lst (xs.map D.int)) = true := by
  show (decide (0 < n + 1) && okEs (n + 1 - 1) (xs.map D.int)) = true
  rw [okEs_ints]; simp
/-- is None -/
def isNon : D → Option Bool
  | .non => some true
  | .bl _ => some false
  | .int _ => some false
  | .str _ => some false
  | .lst _ => some false
  | .tup _ => some false
  | .rol _ => some false
  | .rot _ => some false
  | .hnd _ => some false
  | _ => none
def oIsN : DO := fun x y m Φ => match isNon x, y with
  | some b, .non => Φ (.bl b) m
  | _, _ => False
def oNotN : DO := fun x y m Φ => match isNon x, y with
  | some b, .non => Φ (.bl (!b)) m
  | _, _ => False
theorem isNon_ok {K : PySem.W.Frag} {w : Wd} {x : D} {v : V} {b : Bool} (e : isNon x = some b) (r : Rep K w x v) : decide (v = .non) = b := by
  cases x with
  | non => cases e; cases (show v = .non from r); rfl
  | bl c => cases e; cases (show v = .bl c from r); rfl
  | int c => cases e; cases (show v = .int c from r); rfl
  | str c => cases e; cases (show v = .str c from r); rfl
  | lst c => cases e; obtain ⟨a, _, rfl, _⟩ := r; rfl
  | tup c => cases e; obtain ⟨a, _, rfl, _⟩ := r; rfl
  | rol c => cases e; obtain ⟨a, _, rfl, _⟩ := r; rfl
  | rot c => cases e; obtain ⟨a, _, rfl, _⟩ := r; rfl
  | hnd c => cases e; obtain ⟨a, rfl, _⟩ := r; rfl
  | _ => cases e
theorem opl_isN {K : PySem.W.Frag} : OpL K (fun x y H Q => y = .non ∧ Q (.bl (decide (x = .non))) H) oIsN := fun w m H x y u v Q Φ h r1 r2 vl q => by
  unfold oIsN at q
  split at q
  · rename_i b e
    exact ⟨r2, vl.bl h (by rw [isNon_ok e r1]; exact q)⟩
  · exact q.elim
theorem opl_notN {K : PySem.W.Frag} : OpL K (fun x y H Q => y = .non ∧ Q (.bl (!decide (x = .non))) H) oNotN := fun w m H x y u v Q Φ h r1 r2 vl q => by
  unfold oNotN at q
  split at q
  · rename_i b e
    exact ⟨r2, vl.bl h (by rw [isNon_ok e r1]; exact q)⟩
  · exact q.elim
/-! subscripts -/
def oIx : DO := fun x y m Φ => match x, y with
  | .str z, .int i => z.length ≤ LIM ∧ ∃ c, atI z.cps.toList i = some c ∧ Φ (.str ⟨#[c]⟩) m
  | x, .int i => match asL m x with
    | some ds => ∃ d, atI ds i = some d ∧ Φ d m
    | none => match asT x with
      | some ds => ∃ d, atI ds i = some d ∧ Φ d m
      | none => False
  | _, _ => False
theorem atI_rep {K : PySem.W.Frag} {w : Wd} {ds : List D} {vs : List V} {i : Int} {d : D} (r : RepAll K w ds vs) (e : atI ds i = some d) : ∃ v, atI vs i = some v ∧ Rep K w d v := by
  unfold atI at e ⊢
  rw [r.length]
  cases q : ixN ds.length i with
  | none => rw [q] at e; cases e
  | some j => rw [q] at e; exact r.get e
theorem opl_ix {K : PySem.W.Frag} : OpL K (rIx K) oIx := fun w m H x y u v Q Φ h r1 r2 vl q => by
  unfold oIx at q
  split at q
  · obtain ⟨z, c, e, q⟩ := q
    exact .inr (.inr ⟨_, _, c, r1, r2, lim_sz z, e, vl.str h q⟩)
  · split at q
    · rename_i e
      obtain ⟨d, e2, q⟩ := q
      obtain ⟨a, us, rfl, ha, ra⟩ := asL_ok h e r1
      obtain ⟨v', e3, rd⟩ := atI_rep ra e2
      exact .inl ⟨a, us, _, v', rfl, r2, ha, e3, vl d m w H v' (.refl w) h rd q⟩
    · split at q
      · rename_i e
        obtain ⟨d, e2, q⟩ := q
        obtain ⟨a, us, rfl, ha, ra⟩ := asT_ok h e r1
        obtain ⟨v', e3, rd⟩ := atI_rep ra e2
        exact .inr (.inl ⟨a, us, _, v', rfl, r2, ha, e3, vl d m w H v' (.refl w) h rd q⟩)
      · exact q.elim
  · exact q.elim
section
variable {X : Cx} {E : WX} {a b c : Expr} {Wa Wb Wc : DE} {pos : Pos}
theorem je_ix (ha : JE X E a Wa) (hb : JE X E b Wb) (hs : PlainIx b := by exact fun _ _ => rfl) : JE X E (.Subscript a b pos) (dOp oIx Wa Wb) := PE.imp (pe_ix ix_seq ha hb hs) fun _ _ _ h => dOp_ok opl_ix h
/-- xs[lo:hi] -/
abbrev DPt := Env → MM → (Option Int → MM → Prop) → XP → Prop
def liftO (K : PySem.W.Frag) (E : WX) (W : DPt) : TO := fun σ H Q => ∃ w ρ m Ψ Φ, At K E w σ H ρ m Ψ ∧ (∀ o m' w' H', w.le w' → HRep K w' m' H' → Φ o m' → Q o H') ∧ W ρ m Φ Ψ
abbrev JO (X : Cx) (E : WX) (e : Option Expr) (W : DPt) : Prop := PO X e (liftO X.K E W)
theorem PO.imp {e : Option Expr} {t t' : TO} (h : PO X e t) (i : ∀ σ H Q, t' σ H Q → t σ H Q) : PO X e t' := ⟨fun pins s σ H Q I q => h.run pins s σ H Q I (i σ H Q q)⟩
def dpN : DPt := fun _ m Φ _ => Φ none m
def dpS (e : DE) : DPt := fun ρ m Φ Ψ => e ρ m (fun d m1 => match d with
  | .int i => Φ (some i) m1
  | _ => False) Ψ
theorem jo_none : JO X E none dpN := PO.imp po_none fun σ H Q ⟨w, ρ, m, Ψ, Φ, a, n, h⟩ => n none m w H (.refl w) a.h h
theorem jo_some (h : JE X E a Wa) : JO X E (some a) (dpS Wa) := PO.imp (po_some h) fun σ H Q ⟨w, ρ, m, Ψ, Φ, a, n, h⟩ => by
  refine ⟨w, ρ, m, Ψ, _, a, fun d m1 w1 H1 v l1 h1 r1 q1 => ?_, h⟩
  cases d with
  | int i => exact ⟨i, r1, n (some i) m1 w1 H1 l1 h1 q1⟩
  | _ => exact False.elim q1
def cutD (xs : List D) (lo hi : Option Int) : List D := (xs.drop (HT.sIx xs.length 0 lo)).take (HT.sIx xs.length xs.length hi - HT.sIx xs.length 0 lo)
theorem cut_rep {K : PySem.W.Frag} {w : Wd} {ds : List D} {vs : List V} (r : RepAll K w ds vs) (lo hi : Option Int) : RepAll K w (cutD ds lo hi) (cutV vs lo hi) := by
  unfold cutD cutV
  rw [r.length]
  exact (r.drop _).take _
def dSl (a : DE) (lo hi : DPt) : DE := fun ρ m Φ Ψ => a ρ m (fun d m1 => lo ρ m1 (fun l m2 => hi ρ m2 (fun u m3 => match asL m3 d with
  | some ds => Φ (.lst (cutD ds l u)) m3
  | none => False) Ψ) Ψ) Ψ
theorem je_sl {lo hi : Option Expr} {Wl Wh : DPt} {p2 : Pos} (ha : JE X E a Wa) (hl : JO X E lo Wl) (hh : JO X E hi Wh) : JE X E (.Subscript a (.Slice lo hi none p2) pos) (dSl Wa Wl Wh) := PE.imp (pe_slice sl_list ha hl hh) fun σ H Q ⟨w, ρ, m, Ψ, Φ, a, vl, h⟩ => by
  refine ⟨w, ρ, m, Ψ, _, a, fun d m1 w1 H1 v l1 h1 r1 q1 => ?_, h⟩
  refine ⟨w1, ρ, m1, Ψ, _, a.to l1 h1, fun o m2 w2 H2 l2 h2 q2 => ?_, q1⟩
  refine ⟨w2, ρ, m2, Ψ, _, a.to (l1.trans l2) h2, fun u m3 w3 H3 l3 h3 q3 => ?_, q2⟩
  split at q3
  · rename_i ds e
    obtain ⟨a, us, rfl, ha, ra⟩ := asL_ok h3 e (Rep.mono (l2.trans l3) _ _ r1)
    exact ⟨a, us, rfl, ha, fun p hp => (vl.mono (l1.trans (l2.trans l3))).newL h3 hp (cut_rep ra _ _) q3⟩
  · exact q3.elim
end
end Dl

namespace Dl
open PySem L2 PyProof.Rows

/-! ### comprehensions -/
abbrev XF : XP := fun _ _ _ => False
abbrev EF : WX := fun _ _ _ _ => False
def wipeD (ρ : Env) : List Nat → Env
  | [] => ρ
  | v :: vs => (wipeD ρ vs).set v none
theorem Slots.wipes {K : PySem.W.Frag} {w : Wd} {σ : L2.St} {ρ : Env} (h : Slots K w σ ρ) : ∀ vs, Slots K w (L2.wipe σ vs) (wipeD ρ vs)
  | [] => h
  | v :: vs => (Slots.wipes h vs).wipe v
def lcW (g : DG) (tt : DT) (te : DE) (ρ : Env) (Φ : D → MM → Prop) : List D → List D → MM → Prop
  | [], acc, m => Φ (.lst acc) m
  | d :: ds, acc, m => g d ρ (m.push (.lst acc)) fun ρ1 m1 => m1 = m.push (.lst acc) ∧ tt ρ1 (m.push (.lst acc)) (fun b m2 => m2 = m.push (.lst acc) ∧ if b = true then
      te ρ1 (m.push (.lst acc)) (fun y m3 => m3 = m.push (.lst acc) ∧ acc.length < LIM ∧ clD m.M.length y = true ∧ lcW g tt te ρ Φ ds (acc ++ [y]) m) XF
    else lcW g tt te ρ Φ ds acc m) XF
def dLc (it : DI) (g : DG) (tt : DT) (te : DE) (vs : List Nat) : DE := fun ρ m Φ Ψ => it ρ m (fun ds m1 => lcW g tt te (wipeD ρ vs) Φ ds [] m1) Ψ
def dYes : DT := fun _ m Φ _ => Φ true m
theorem xlift_F {K : PySem.W.Frag} {w : Wd} {E : WX} {σ : L2.St} : XLift K w E σ XF := fun _ _ _ _ _ _ _ _ _ _ _ q => q.elim
theorem clAll_app {n : Nat} : ∀ {xs ys : List D}, clAll n xs = true → clAll n ys = true → clAll n (xs ++ ys) = true
  | [], ys, _, h => h
  | x :: xs, ys, h, g => by
    have h : (clD n x && clAll n xs) = true := h
    rw [Bool.and_eq_true] at h
    show (clD n x && clAll n (xs ++ ys)) = true
    rw [h.1, clAll_app h.2 g]; rfl
theorem lc_ok {K : PySem.W.Frag} {E : WX} {wi : DI} {g : DG} {tt : DT} {te : DE} {vs : List Nat} {σ : L2.St} {H : Hp} {Q : VK} (h : lift K E (dLc wi g tt te vs) σ H Q) : tLc (liftI K E wi) (liftG K vs g) (liftT K EF tt) (lift K EF te) vs σ H Q := by
  obtain ⟨w, ρ, m, Ψ, Φ, a, vl, h⟩ := h
  refine ⟨w, ρ, m, Ψ, _, a, fun ds m1 w1 H1 J l1 h1 wk q1 => ?_, h⟩
  intro D hD
  refine ⟨fun i k H => k = ds.length - i ∧ i ≤ ds.length ∧ ∃ w' acc, w1.le w' ∧ HRep K w' (m1.push (.lst acc)) H ∧ w'.th[m1.M.length]? = some D ∧ clAll m1.M.length acc = true ∧ lcW g tt te (wipeD ρ vs) Φ (ds.drop i) acc m1, ⟨ds.length, by omega, Nat.zero_le _, w1.add D, [], Wd.le_add, h1.add hD ⟨[], upd_same, rfl⟩, ?_, rfl, q1⟩, ?_⟩
  · show (w1.th ++ [D])[m1.M.length]? = some D
    rw [← h1.len, List.getElem?_append_right (Nat.le_refl _)]; simp
  rintro i k H2 ⟨rfl, hi, w2, acc, l2, h2, hD2, hcl, q2⟩
  by_cases hlt : i < ds.length
  · have ed : ds[i]? = some ds[i] := List.getElem?_eq_getElem hlt
    have dr : ds.drop i = ds[i] :: ds.drop (i + 1) := List.drop_eq_getElem_cons hlt
    rw [dr] at q2
    refine .inr ⟨wk.go w2 _ H2 i _ l2 h2 ed, fun H' => ∃ w' acc, w1.le w' ∧ HRep K w' (m1.push (.lst acc)) H' ∧ w'.th[m1.M.length]? = some D ∧ clAll m1.M.length acc = true ∧ lcW g tt te (wipeD ρ vs) Φ (ds.drop (i + 1)) acc m1, fun H' z => ⟨ds.length - (i + 1), by omega, rfl, hlt, z⟩, fun x H3 y => ?_⟩
    obtain ⟨w3, l3, h3, r3⟩ := wk.yld w2 _ H2 i _ x H3 l2 h2 ed y
    have s3 : Slots K w3 (wipe σ vs) (wipeD ρ vs) := ((a.s.mono l1).mono (l2.trans l3)).wipes vs
    refine ⟨w3, wipeD ρ vs, _, ds[i], _, h3, s3, r3, fun ρ' m' w' H' σ' l h' s' e q => ⟨e.trans wipe_wipe, ?_⟩, q2⟩
    obtain ⟨rfl, q⟩ := q
    refine ⟨w', ρ', _, XF, _, ⟨h', s', xlift_F⟩, fun b m4 w4 H4 l4 h4 q4 => ?_, q⟩
    obtain ⟨rfl, q4⟩ := q4
    have l24 : w2.le w4 := l3.trans (l.trans l4)
    cases b with
    | true =>
      rw [if_pos rfl] at q4
      show (if true = true then _ else _)
      rw [if_pos rfl]
      refine ⟨w4, ρ', _, XF, _, ⟨h4, s'.mono l4, xlift_F⟩, fun y m5 w5 H5 v l5 h5 r5 q5 => ?_, q4⟩
      obtain ⟨rfl, hz, hy, q5⟩ := q5
      have hD5 : w5.th[m1.M.length]? = some D := l5.th _ _ (l24.th _ _ hD2)
      have hM : (m1.push (.lst acc)).M[m1.M.length]? = some (.lst acc) := by
        show (m1.M ++ [MO.lst acc])[m1.M.length]? = _
        rw [List.getElem?_append_right (Nat.le_refl _)]; simp
      obtain ⟨xs, hx, r⟩ := h5.obj _ D _ hD5 hM
      refine ⟨xs, hx, lim_lt (by rw [r.length]; exact hz), w5, acc ++ [y], l2.trans (l24.trans l5), ?_, hD5, clAll_app hcl (by show (clD _ y && true) = true; rw [hy]; rfl), q5⟩
      have z := h5.wr (ho := .lst (xs ++ [v])) (o' := .lst (acc ++ [y])) hD5 hM (fun z => by cases z) ⟨_, upd_same, r.append ⟨v, [], rfl, r5, rfl⟩⟩
      have e : (m1.push (.lst acc)).M.set m1.M.length (.lst (acc ++ [y])) = (m1.push (.lst (acc ++ [y]))).M := by
        show (m1.M ++ [MO.lst acc]).set m1.M.length (.lst (acc ++ [y])) = m1.M ++ [MO.lst (acc ++ [y])]
        rw [List.set_append_right _ _ (Nat.le_refl _)]; simp
      rw [e] at z
      exact z
    | false =>
      rw [if_neg Bool.false_ne_true] at q4
      show (if false = true then _ else _)
      rw [if_neg Bool.false_ne_true]
      exact ⟨w4, acc, l2.trans l24, h4, l24.th _ _ hD2, hcl, q4⟩
  · have e : i = ds.length := by omega
    subst e
    rw [List.drop_length] at q2
    refine .inl ⟨wk.stop w2 _ H2 l2 h2, ?_⟩
    have hM : (m1.push (.lst acc)).M[m1.M.length]? = some (.lst acc) := by
      show (m1.M ++ [MO.lst acc])[m1.M.length]? = _
      rw [List.getElem?_append_right (Nat.le_refl _)]; simp
    obtain ⟨xs, fD, hx, r, hf⟩ := h2.frz hD2 hM
    have et : ((m1.push (.lst acc)).M.set m1.M.length .dead).take m1.M.length = m1.M := by
      show ((m1.M ++ [MO.lst acc]).set m1.M.length .dead).take m1.M.length = m1.M
      rw [List.set_append_right _ _ (Nat.le_refl _), List.take_left']
      rfl
    have hc := hf.cut (n := m1.M.length) (fun o ho => by
      have ho : o ∈ ((m1.push (.lst acc)).M.set m1.M.length .dead).take m1.M.length := ho
      rw [et] at ho
      exact h1.cls o ho)
    have em : (MM.cut ⟨(m1.push (.lst acc)).M.set m1.M.length .dead, (m1.push (.lst acc)).s⟩ m1.M.length) = m1 := by
      show (⟨((m1.push (.lst acc)).M.set m1.M.length .dead).take m1.M.length, m1.s⟩ : MM) = m1
      rw [et]
    rw [em] at hc
    have lc : w1.le ((w2.put D (.lst xs)).cut m1.M.length) := Wd.le_cut (l2.trans (Wd.le_put fD)) (Nat.le_of_eq h1.len)
    refine vl (.lst acc) m1 _ H2 _ (l1.trans lc) hc ?_ q2
    exact ⟨D, xs, rfl, upd_same, RepAll.cut _ _ (RepAll.mono (Wd.le_put fD) _ _ r) hcl⟩
section
variable {X : Cx} {E : WX} {a b c : Expr} {Wa Wb Wc : DE} {pos : Pos}
theorem jts_nil {K : PySem.W.Frag} : PTs X [] (liftT K E dYes) := ⟨fun pins s σ H Q I ⟨w, ρ, m, Ψ, Φ, a, n, h⟩ => pts_nil.run pins s σ H Q I (n true m w H (.refl w) a.h h)⟩
theorem jts_one {tc : DT} (h : JT X E c tc) : PTs X [c] (liftT X.K E tc) := pts_one h
theorem je_lc {elt tg iter : Expr} {ifs : List Expr} {scope : Scope} {own : List (Str × Nat)} {pos : Pos} {wi : DI} {g : DG} {tt : DT} {te : DE} (hc : X.calm = true) (hN : X.N.Nodup) (hi : JI X E tg iter wi) (ok : BlkOk X.N X.env.scope scope own)
    (hg : ∀ (s : Shared) (H : Hp) (C : Addr) (cl : List (Str × Addr)) (fp : List Addr), PG (X.blk s H scope (compEnvC scope cl C X.env) fp) tg (liftG X.K (own.map (·.2)) g))
    (ht : ∀ (s : Shared) (H : Hp) (C : Addr) (cl : List (Str × Addr)) (fp : List Addr), PTs (X.blk s H scope (compEnvC scope cl C X.env) fp) ifs (liftT X.K EF tt))
    (he : ∀ (s : Shared) (H : Hp) (C : Addr) (cl : List (Str × Addr)) (fp : List Addr), JE (X.blk s H scope (compEnvC scope cl C X.env) fp) EF elt te) (hs : ∀ x, foldedSetIterable iter X.env x = pure x := by intro _; rfl) :
    JE X E (.ListComp elt [⟨tg, iter, ifs, 0⟩] scope pos) (dLc wi g tt te (own.map (·.2))) := PE.imp (pe_lc hc hN hi ok hg ht he hs) fun _ _ _ h => lc_ok h
/-- y = [..] -/
theorem js_setLc (i : Nat) {y : Str} {py : Pos} {elt tg iter : Expr} {ifs : List Expr} {scope : Scope} {own : List (Str × Nat)} {pos spos : Pos} {wi : DI} {g : DG} {tt : DT} {te : DE} (hc : X.calm = true) (hN : X.N.Nodup) (hy : X.N[i]? = some y) (hyl : X.env.scope.names.lookup y = some .local)
    (hsw : swapsWith (.ListComp elt [⟨tg, iter, ifs, 0⟩] scope pos) (some (.Name y py)) spos.line X.env = pure true) (hi : JI X E tg iter wi) (ok : BlkOk X.N X.env.scope scope own)
    (hg : ∀ (s : Shared) (H : Hp) (C : Addr) (cl : List (Str × Addr)) (fp : List Addr), PG (X.blk s H scope (compEnvC scope cl C X.env) fp) tg (liftG X.K (own.map (·.2)) g))
    (ht : ∀ (s : Shared) (H : Hp) (C : Addr) (cl : List (Str × Addr)) (fp : List Addr), PTs (X.blk s H scope (compEnvC scope cl C X.env) fp) ifs (liftT X.K EF tt))
    (he : ∀ (s : Shared) (H : Hp) (C : Addr) (cl : List (Str × Addr)) (fp : List Addr), JE (X.blk s H scope (compEnvC scope cl C X.env) fp) EF elt te) (hs : ∀ x, foldedSetIterable iter X.env x = pure x := by intro _; rfl) :
    JS X E (.Assign [.Name y py] (.ListComp elt [⟨tg, iter, ifs, 0⟩] scope pos) spos) (dSet i (dLc wi g tt te (own.map (·.2)))) := PS.imp (ps_setLc hc hN hy hyl hsw hi ok hg ht he hs) fun D σ H ⟨w, ρ, m, Ψ, N, a, n, h⟩ => by
  refine lc_ok (E := E) ⟨w, ρ, m, Ψ ρ, _, a.at, fun d m1 w1 H1 v l1 h1 r1 q1 => ?_, h⟩
  exact n.nx _ m1 w1 H1 _ l1 h1 ((a.s.mono l1).set i r1) q1

/-! ### calls of built-ins -/
abbrev DCB := List D → MM → (D → MM → Prop) → Prop
def CbL (K : PySem.W.Frag) (r : List V → Hp → VK → Prop) (c : DCB) : Prop := ∀ w m H ds vs Q Φ, HRep K w m H → RepAll K w ds vs → VLift K w Q Φ → c ds m Φ → r vs H Q
def dCB (c : DCB) (r : DA) : DE := fun ρ m Φ Ψ => r ρ m (fun ds m1 => c ds m1 Φ) Ψ
variable {e : Expr} {es : List Expr} {x : Str} {p : Pos} {Ws : DA} {r : List V → Hp → VK → Prop} {cb : DCB}
theorem je_callB {id : String} (hc : CallR X (.builtin id) r) (hl : CbL X.K r cb) (hg : Gl X x) (hm : X.mg x = none) (hv : bootBuiltins x = some (.builtin id)) (ha : JA X E (e :: es) Ws) (hn : x ≠ "__name__" := by decide) (hdb : (x == ("__debug__" : Str)) = false := by decide)
    (he : starEach (e :: es) X.env = (false, eval e X.env) :: starEach es X.env := by rfl) (hpl : (backTo pos (starEach es X.env)).any (·.1) = false := by rfl) : JE X E (.Call (.Name x p) (e :: es) [] pos) (dCB cb Ws) :=
  PE.imp (pe_callB hc hg hm hv ha hn hdb he hpl) fun σ H Q ⟨w, ρ, m, Ψ, Φ, a, vl, h⟩ => ⟨w, ρ, m, Ψ, _, a, fun ds m1 w1 H1 vs l1 h1 r1 q1 => hl w1 m1 H1 ds vs Q Φ h1 r1 (vl.mono l1) q1, h⟩
theorem je_callTy {T : String} (hc : CallR X (.type T) r) (hl : CbL X.K r cb) (hg : Gl X x) (hm : X.mg x = none) (hv : bootBuiltins x = some (.type T)) (ha : JA X E (e :: es) Ws) (hn : x ≠ "__name__" := by decide) (hdb : (x == ("__debug__" : Str)) = false := by decide)
    (he : starEach (e :: es) X.env = (false, eval e X.env) :: starEach es X.env := by rfl) (hpl : (backTo pos (starEach es X.env)).any (·.1) = false := by rfl) : JE X E (.Call (.Name x p) (e :: es) [] pos) (dCB cb Ws) :=
  PE.imp (pe_callTy hc hg hm hv ha hn hdb he hpl) fun σ H Q ⟨w, ρ, m, Ψ, Φ, a, vl, h⟩ => ⟨w, ρ, m, Ψ, _, a, fun ds m1 w1 H1 vs l1 h1 r1 q1 => hl w1 m1 H1 ds vs Q Φ h1 r1 (vl.mono l1) q1, h⟩
end
def cLen : DCB := fun ds m Φ => match ds with
  | [.str z] => z.length ≤ LIM ∧ Φ (.int z.length) m
  | [d] => match asL m d with
    | some xs => Φ (.int xs.length) m
    | none => match asT d with
      | some xs => Φ (.int xs.length) m
      | none => False
  | _ => False
theorem cbl_len {K : PySem.W.Frag} : CbL K (fun xs H Q => ∃ x n, xs = [x] ∧ LenV K x H n ∧ Q (.int n) H) cLen := fun w m H ds vs Q Φ h r vl q => by
  unfold cLen at q
  split at q
  · obtain ⟨v, rfl, rv⟩ := rep1 r
    cases (show v = V.str _ from rv)
    exact ⟨_, _, rfl, ⟨lim_sz q.1, rfl⟩, vl.int h q.2⟩
  · obtain ⟨v, rfl, rv⟩ := rep1 r
    split at q
    · rename_i e
      obtain ⟨a, us, rfl, ha, ra⟩ := asL_ok h e rv
      exact ⟨_, _, rfl, .inl ⟨us, ha, rfl⟩, vl.int h (by rw [ra.length]; exact q)⟩
    · split at q
      · rename_i e
        obtain ⟨a, us, rfl, ha, ra⟩ := asT_ok h e rv
        exact ⟨_, _, rfl, .inr ⟨us, ha, rfl⟩, vl.int h (by rw [ra.length]; exact q)⟩
      · exact q.elim
  · exact q.elim
def cInt : DCB := fun ds m Φ => match ds with
  | [.int i] => Φ (.int i) m
  | [.bl b] => Φ (.int (if b then 1 else 0)) m
  | _ => False
theorem cbl_int {K : PySem.W.Frag} : CbL K (fun xs H Q => (∃ i, xs = [V.int i] ∧ Q (.int i) H) ∨ ∃ k, xs = [V.bl k] ∧ Q (.int (if k then 1 else 0)) H) cInt := fun w m H ds vs Q Φ h r vl q => by
  unfold cInt at q
  split at q
  · obtain ⟨v, rfl, rv⟩ := rep1 r
    cases (show v = V.int _ from rv)
    exact .inl ⟨_, rfl, vl.int h q⟩
  · obtain ⟨v, rfl, rv⟩ := rep1 r
    cases (show v = V.bl _ from rv)
    exact .inr ⟨_, rfl, vl.int h q⟩
  · exact q.elim
def cAbs : DCB := fun ds m Φ => match ds with
  | [.int i] => Φ (.int (if i < 0 then -i else i)) m
  | _ => False
theorem cbl_abs {K : PySem.W.Frag} : CbL K (fun xs H Q => ∃ i, xs = [V.int i] ∧ Q (.int (if i < 0 then -i else i)) H) cAbs := fun w m H ds vs Q Φ h r vl q => by
  unfold cAbs at q
  split at q
  · obtain ⟨v, rfl, rv⟩ := rep1 r
    cases (show v = V.int _ from rv)
    exact ⟨_, rfl, vl.int h q⟩
  · exact q.elim
def intsD : List D → Option (List Int)
  | [] => some []
  | .int i :: r => (intsD r).map (i :: ·)
  | _ => none
theorem ints_ok {K : PySem.W.Frag} {w : Wd} : ∀ {ds : List D} {vs : List V} {ns : List Int}, intsD ds = some ns → RepAll K w ds vs → vs = ns.map V.int
  | [], vs, ns, e, r => by cases e; exact r
  | d :: ds, vs, ns, e, r => by
    obtain ⟨v, r', rfl, rv, rr⟩ := r
    cases d with
    | int i =>
      have e : (intsD ds).map (i :: ·) = some ns := e
      cases q : intsD ds with
      | none => rw [q] at e; cases e
      | some ns' =>
        rw [q] at e; cases e
        cases (show v = V.int i from rv)
        rw [ints_ok q rr]; rfl
    | _ => cases e
theorem ints_map : ∀ (ns : List Int), intsD (ns.map D.int) = some ns
  | [] => rfl
  | n :: ns => by
    show (intsD (ns.map D.int)).map (n :: ·) = _
    rw [ints_map ns]; rfl
def cSum : DCB := fun ds m Φ => match ds with
  | [d] => match asL m d with
    | some xs => ∃ ns, intsD xs = some ns ∧ Φ (.int ns.sum) m
    | none => False
  | _ => False
theorem cbl_sum {K : PySem.W.Frag} : CbL K (rSum K) cSum := fun w m H ds vs Q Φ h r vl q => by
  unfold cSum at q
  split at q
  · obtain ⟨v, rfl, rv⟩ := rep1 r
    split at q
    · rename_i e
      obtain ⟨ns, e2, q⟩ := q
      obtain ⟨a, us, rfl, ha, ra⟩ := asL_ok h e rv
      exact ⟨a, ns, rfl, by rw [← ints_ok e2 ra]; exact ha, vl.int h q⟩
    · exact q.elim
  · exact q.elim
def cMax2 : DCB := fun ds m Φ => match ds with
  | [.int i, .int j] => Φ (.int (if j > i then j else i)) m
  | _ => False
def cMin2 : DCB := fun ds m Φ => match ds with
  | [.int i, .int j] => Φ (.int (if j < i then j else i)) m
  | _ => False
theorem cbl_max2 {K : PySem.W.Frag} : CbL K (fun xs H Q => ∃ i j, xs = [V.int i, V.int j] ∧ Q (.int (if j > i then j else i)) H) cMax2 := fun w m H ds vs Q Φ h r vl q => by
  unfold cMax2 at q
  split at q
  · obtain ⟨v, u, rfl, rv, ru⟩ := rep2 r
    cases (show v = V.int _ from rv)
    cases (show u = V.int _ from ru)
    exact ⟨_, _, rfl, vl.int h q⟩
  · exact q.elim
/-- list(x): a new list, frozen or changing -/
def cList : DCB := fun ds m Φ => match ds with
  | [d] => match asL m d with
    | some xs => Φ (.lst xs) m
    | none => match asT d with
      | some xs => Φ (.lst xs) m
      | none => False
  | _ => False
theorem cbl_list {K : PySem.W.Frag} : CbL K (fun xs H Q => ∃ p ys, xs = [V.ref p] ∧ (SqL K H p ys ∨ SqT K H p ys) ∧ ∀ l, H l = none → Q (.ref l) (upd H l (.lst ys))) cList := fun w m H ds vs Q Φ h r vl q => by
  unfold cList at q
  split at q
  · obtain ⟨v, rfl, rv⟩ := rep1 r
    split at q
    · rename_i e
      obtain ⟨a, us, rfl, ha, ra⟩ := asL_ok h e rv
      exact ⟨a, us, rfl, .inl ha, fun l hl => vl.newL h hl ra q⟩
    · split at q
      · rename_i e
        obtain ⟨a, us, rfl, ha, ra⟩ := asT_ok h e rv
        exact ⟨a, us, rfl, .inr ha, fun l hl => vl.newL h hl ra q⟩
      · exact q.elim
  · exact q.elim
end Dl

namespace Dl
open PySem L2 PyProof.Rows

/-! ### isinstance -/
def tyD (m : MM) : D → Option String
  | .non => some "NoneType"
  | .bl _ => some "bool"
  | .int _ => some "int"
  | .str _ => some "str"
  | .lst _ => some "list"
  | .tup _ => some "tuple"
  | .hnd k => (moL m.M[k]?).map fun _ => "list"
  | _ => none
def cIsi : DCB := fun ds m Φ => match ds with
  | [x, .ty n] => match (tyD m x).bind fun t => kitB t n with
    | some b => Φ (.bl b) m
    | none => False
  | _ => False
section
variable {X : Cx} {E : WX} {a b c : Expr} {Wa Wb Wc : DE} {pos : Pos} {e : Expr} {es : List Expr} {Ws : DA}
/-! ### methods of lists -/
def dMethL (c : D → List D → MM → (D → MM → Prop) → Prop) (o : DE) (r : DA) : DE := fun ρ m Φ Ψ => o ρ m (fun x m1 => (asL m1 x).isSome = true ∧ r ρ m1 (fun ds m2 => c x ds m2 Φ) Ψ) Ψ
def MtL (K : PySem.W.Frag) (r : V → List V → Hp → VK → Prop) (c : D → List D → MM → (D → MM → Prop) → Prop) : Prop := ∀ w m H x ds u vs Q Φ, HRep K w m H → Rep K w x u → RepAll K w ds vs → VLift K w Q Φ → c x ds m Φ → r u vs H Q
theorem tyL_ok {K : PySem.W.Frag} {w : Wd} {m : MM} {H : Hp} {d : D} {v : V} (h : HRep K w m H) (e : (asL m d).isSome = true) (r : Rep K w d v) : tyV K "list" v H := by
  obtain ⟨ds, e⟩ := Option.isSome_iff_exists.mp e
  obtain ⟨a, xs, rfl, q, _⟩ := asL_ok h e r
  exact .inl ⟨rfl, xs, q⟩
theorem je_mL {name : Str} {id : String} {r : V → List V → Hp → VK → Prop} {c : D → List D → MM → (D → MM → Prop) → Prop} {apos cpos : Pos} {o : Expr} {Wo : DE} (slot : Slot "list" name id) (hty : typeOf (.builtin id) = pure (.type "method_descriptor")) (hm : MtR X id r) (hl : MtL X.K r c) (ho : JE X E o Wo) (ha : JA X E (e :: es) Ws)
    (hbase : attributeBase o name X.env (eval o X.env) = eval o X.env := by rfl)
    (hfew : ((backTo cpos (starEach (e :: es) X.env)).all (fun x => !x.1) && (backToKw cpos (keywordEach [] X.env)).all (fun x => x.1.isSome)
      && decide ((e :: es).length + ([] : List Keyword).length + (if ([] : List Keyword).isEmpty then 0 else 1) < 30)) = true := by rfl)
    (hline : (apos.endLine == cpos.line) = true := by rfl) (hs : starEach (e :: es) X.env = (false, eval e X.env) :: starEach es X.env := by rfl) (hplain : (backTo cpos (starEach es X.env)).any (·.1) = false := by rfl) :
    JE X E (.Call (.Attribute o name apos) (e :: es) [] cpos) (dMethL c Wo Ws) := PE.imp (pe_bm PySem.F.plainAttrs_list slot hty hm ho ha hbase hfew hline hs hplain) fun σ H Q ⟨w, ρ, m, Ψ, Φ, a, vl, h⟩ => by
  refine ⟨w, ρ, m, Ψ, _, a, fun d m1 w1 H1 v l1 h1 r1 q1 => ?_, h⟩
  refine ⟨tyL_ok h1 q1.1 r1, w1, ρ, m1, Ψ, _, a.to l1 h1, fun ds m2 w2 H2 vs l2 h2 r2 q2 => ?_, q1.2⟩
  exact hl w2 m2 H2 d ds v vs Q Φ h2 (Rep.mono l2 _ _ r1) r2 (vl.mono (l1.trans l2)) q2
end
theorem VLift.wr {K : PySem.W.Frag} {w : Wd} {m : MM} {H : Hp} {Q : VK} {Φ : D → MM → Prop} {k : Nat} {a : Addr} {ds ds' : List D} {xs' : List V} {d : D} {v : V} (vl : VLift K w Q Φ) (h : HRep K w m H) (e : w.th[k]? = some a) (eo : m.M[k]? = some (.lst ds)) (r : RepAll K w ds' xs')
    (rd : Rep K w d v) (q : Φ d ⟨m.M.set k (.lst ds'), m.s⟩) : Q v (upd H a (.lst xs')) :=
  vl d _ w _ v (.refl w) (h.wr (o' := .lst ds') e eo (fun z => by cases z) ⟨xs', upd_same, r⟩) rd q
def oApp : D → List D → MM → (D → MM → Prop) → Prop := fun x ds m Φ => match x, ds with
  | .hnd k, [y] => match moL m.M[k]? with
    | some xs => xs.length < LIM ∧ Φ .non ⟨m.M.set k (.lst (xs ++ [y])), m.s⟩
    | none => False
  | _, _ => False
theorem mtl_app {K : PySem.W.Frag} : MtL K rAppend oApp := fun w m H x ds u vs Q Φ h r rs vl q => by
  unfold oApp at q
  split at q
  · split at q
    · rename_i k y _ xs e
      obtain ⟨a, rfl, q2⟩ := r
      obtain ⟨v, rfl, rv⟩ := rep1 rs
      obtain ⟨us, hx, ru⟩ := h.obj k a _ q2 (moL_eq e)
      exact ⟨a, us, v, rfl, rfl, hx, lim_lt (by rw [ru.length]; exact q.1), vl.wr (ds' := xs ++ [y]) (d := .non) h q2 (moL_eq e) (ru.append ⟨v, [], rfl, rv, rfl⟩) rfl q.2⟩
    · exact q.elim
  · exact q.elim
def oPop : D → List D → MM → (D → MM → Prop) → Prop := fun x ds m Φ => match x, ds with
  | .hnd k, [] => match moL m.M[k]? with
    | some xs => ∃ y, xs[xs.length - 1]? = some y ∧ Φ y ⟨m.M.set k (.lst xs.dropLast), m.s⟩
    | none => False
  | _, _ => False
theorem RepAll.dropLast {K : PySem.W.Frag} {w : Wd} {ds : List D} {vs : List V} (r : RepAll K w ds vs) : RepAll K w ds.dropLast vs.dropLast := by
  rw [List.dropLast_eq_take, List.dropLast_eq_take, r.length]
  exact r.take _
theorem RepAll.eraseIdx {K : PySem.W.Frag} {w : Wd} {ds : List D} {vs : List V} (r : RepAll K w ds vs) (i : Nat) : RepAll K w (ds.eraseIdx i) (vs.eraseIdx i) := by
  rw [List.eraseIdx_eq_take_drop_succ, List.eraseIdx_eq_take_drop_succ]
  exact (r.take i).append (r.drop (i + 1))
def oPopAt : D → List D → MM → (D → MM → Prop) → Prop := fun x ds m Φ => match x, ds with
  | .hnd k, [.int i] => match moL m.M[k]? with
    | some xs => (-(2 ^ 63) ≤ i ∧ i < 2 ^ 63) ∧ ∃ j y, seqIndex? i xs.length = some j ∧ xs[j]? = some y ∧ Φ y ⟨m.M.set k (.lst (xs.eraseIdx j)), m.s⟩
    | none => False
  | _, _ => False
theorem mtl_popAt {K : PySem.W.Frag} : MtL K rPopAt oPopAt := fun w m H x ds u vs Q Φ h r rs vl q => by
  unfold oPopAt at q
  split at q
  · split at q
    · rename_i k i _ xs e
      obtain ⟨a, rfl, q2⟩ := r
      obtain ⟨v0, rfl, r0⟩ := rep1 rs
      cases (show v0 = V.int i from r0)
      obtain ⟨us, hx, ru⟩ := h.obj k a _ q2 (moL_eq e)
      obtain ⟨q1, j, y, ej, ey, q⟩ := q
      obtain ⟨v, ev, rv⟩ := ru.get ey
      exact ⟨a, us, i, j, v, rfl, rfl, hx, q1.1, q1.2, by rw [ru.length]; exact ej, ev, vl.wr h q2 (moL_eq e) (ru.eraseIdx j) rv q⟩
    · exact q.elim
  · exact q.elim
section
variable {X : Cx} {E : WX} {a b c : Expr} {Wa Wb Wc : DE} {pos : Pos} {e : Expr} {es : List Expr} {Ws : DA}
/-- o[i] = e -/
def dSetIx (e o i : DE) : DS := fun N Ψ ρ m => e ρ m (fun v m1 => o ρ m1 (fun x m2 => i ρ m2 (fun j m3 => match x, j with
  | .hnd k, .int j => match moL m3.M[k]? with
    | some xs => ∃ n, ixN xs.length j = some n ∧ N.nx ρ ⟨m3.M.set k (.lst (xs.set n v)), m3.s⟩
    | none => False
  | _, _ => False) (Ψ ρ)) (Ψ ρ)) (Ψ ρ)
theorem js_setIx {o i : Expr} {Wo Wi : DE} {p1 : Pos} (he : JE X E a Wa) (ho : JE X E o Wo) (hi : JE X E i Wi) (h0 : PG X (.Subscript o i p1) (gSub (lift X.K E Wo) (lift X.K E Wi) rSetL))
    (hs : swapsWithSole [.Subscript o i p1] a pos.line X.env = pure false := by rfl) (hw : swappedStores [.Subscript o i p1] a X.env = pure none := by rfl) (h1 : (assignEach [.Subscript o i p1] X.env).map (·.2) = [assign (.Subscript o i p1) X.env] := by rfl) :
    JS X E (.Assign [.Subscript o i p1] a pos) (dSetIx Wa Wo Wi) := PS.imp (ps_asg he h0 hs hw h1) fun D σ H ⟨w, ρ, m, Ψ, N, a, n, h⟩ => by
  refine ⟨w, ρ, m, Ψ ρ, _, a.at, fun d m1 w1 H1 v l1 h1 r1 q1 => ?_, h⟩
  have a1 := a.to l1 h1
  refine ⟨w1, ρ, m1, Ψ ρ, _, a1.at, fun x m2 w2 H2 u l2 h2 r2 q2 => ?_, q1⟩
  refine ⟨w2, ρ, m2, Ψ ρ, _, (a1.to l2 h2).at, fun j m3 w3 H3 y l3 h3 r3 q3 => ?_, q2⟩
  split at q3
  · split at q3
    · rename_i k j _ xs e
      obtain ⟨nn, en, q⟩ := q3
      obtain ⟨b, rfl, q2⟩ := Rep.mono l3 _ _ r2
      cases (show y = V.int j from r3)
      obtain ⟨us, hx, ru⟩ := h3.obj k b _ q2 (moL_eq e)
      refine ⟨b, us, j, nn, rfl, rfl, hx, by rw [ru.length]; exact en, ?_⟩
      have l13 := l1.trans (l2.trans l3)
      exact n.nx ρ _ w3 _ σ l13 (h3.wr (o' := .lst (xs.set nn d)) q2 (moL_eq e) (fun z => by cases z) ⟨_, upd_same, ru.set nn (Rep.mono (l2.trans l3) _ _ r1)⟩) (a.s.mono l13) q
    · exact q3.elim
  · exact q3.elim
end

/-! ### a def by its body -/
theorem slots_start {K : PySem.W.Frag} {w : Wd} {ds : List D} {vs : List V} {N : List Str} (r : RepAll K w ds vs) : Slots K w (L2.start N vs) (ds.map some ++ List.replicate (N.length - ds.length) none) := by
  unfold L2.start
  refine ⟨by simp [r.length], fun i d e => ?_⟩
  have hi : i < ds.length := by
    rcases Nat.lt_or_ge i ds.length with h | h
    · exact h
    · rw [List.getElem?_append_right (by simpa using h), List.getElem?_replicate] at e
      split at e <;> cases e
  rw [List.getElem?_append_left (by simpa using hi), List.getElem?_map] at e
  cases q : ds[i]? with
  | none => rw [q] at e; cases e
  | some d' =>
    rw [q] at e; cases e
    obtain ⟨v, ev, rv⟩ := r.get q
    refine ⟨v, ?_, rv⟩
    rw [List.getElem?_append_left (by simpa [r.length] using hi), List.getElem?_map, ev]; rfl
section
variable {P : Program} {w : World} {K : PySem.W.Frag} {mg : Str → Option Value} {base : Heap}
abbrev wishE (E : XK) : WX := fun cls d _ H => E cls d H
theorem takesD {N : List Str} {qual : Str} {st : Stmt} {f : Addr} {cdv : Value} {A : Around} {outer : List PySem.Env} {s : Shared} {H : Hp} {E : XK} : Takes (cxOf (L2.CX P w) P w K mg base N qual (defScope st) f cdv A outer s H E) (wishE E) := takes_of rfl rfl rfl rfl
theorem passD {N : List Str} {qual : Str} {st : Stmt} {f : Addr} {cdv : Value} {A : Around} {outer : List PySem.Env} {s : Shared} {H : Hp} {E : XK} :
    PassesOwn (model (cxOf (L2.CX P w) P w K mg base N qual (defScope st) f cdv A outer s H E).prog (cxOf (L2.CX P w) P w K mg base N qual (defScope st) f cdv A outer s H E).w) (cxOf (L2.CX P w) P w K mg base N qual (defScope st) f cdv A outer s H E).A
      (cxOf (L2.CX P w) P w K mg base N qual (defScope st) f cdv A outer s H E).env (cxOf (L2.CX P w) P w K mg base N qual (defScope st) f cdv A outer s H E).xe := passes_of rfl
theorem okD {x qual : Str} {st : Stmt} {f : Addr} {fd : FuncData} {N ps : List Str} {k : Nat} {C : DC} {W : DS} (F : Fun K x qual st f fd) (S : FnScope N ps (defScope st))
    (hb : ∀ (cdv : Value) (A : Around) (outer : List PySem.Env) (s : Shared) (H : Hp) (E : XK), Room k (A.deeper (envOfC qual (defScope st) s.heap.objs.size f cdv)) → JSs (cxOf (L2.CX P w) P w K mg base N qual (defScope st) f cdv A outer s H E) (wishE E) (defBody st) W)
    (hC : ∀ ds m Φ Ψ, ds.length = ps.length → C ds m Φ Ψ → W { nx := fun _ m' => Φ .non m', rt := Φ } (fun _ => Ψ) (ds.map some ++ List.replicate (N.length - ds.length) none) m) :
    FnOk P w K mg base (L2.CX P w) (k + 1) f fd ps (spOf K ps.length C) := by
  refine F.okX S (fun vs H Q E h => h.1) fun cdv A outer s H vs Q E hr h => ⟨_, hb cdv A outer s H E hr, ?_⟩
  obtain ⟨hl, w0, ds, m, Φ, Ψ, h0, r, vl, xl, c⟩ := h
  have hd : ds.length = ps.length := r.length.symm.trans hl
  refine ⟨w0, _, m, fun _ => Ψ, _, ⟨h0, slots_start r, fun ρ σ w1 l1 _ C fs m' w' H' d xs l a b c q => xl C fs m' w' H' d xs (l1.trans l) a b c q⟩, ?_, hC ds m Φ Ψ hd c⟩
  exact ⟨fun ρ m' w' H' σ l h' _ q => vl .non m' w' H' _ l h' rfl q, vl, fun _ _ _ _ _ _ _ _ q => q.elim, fun _ _ _ _ _ _ _ _ q => q.elim⟩
end
end Dl

namespace Dl
open PySem L2 PyProof.Rows

abbrev oSub : DO := oI0 fun i j => i - j
abbrev oMul : DO := oI MulC fun i j => i * j
abbrev oDiv : DO := oI DivC fun i j => i / j
abbrev oMod : DO := oI ModC fun i j => i % j
abbrev oLt : DO := oB0 fun i j => decide (i < j)
abbrev oLe : DO := oB0 fun i j => decide (i ≤ j)
abbrev oGt : DO := oB0 fun i j => decide (j < i)
theorem opl_sub {K : PySem.W.Frag} : OpL K (rI0 fun i j => .int (i - j)) oSub := opl_I0
theorem opl_addI {K : PySem.W.Frag} : OpL K (rI0 fun i j => .int (i + j)) (oI0 fun i j => i + j) := opl_I0
theorem opl_mul {K : PySem.W.Frag} : OpL K (rI MulC fun i j => .int (i * j)) oMul := opl_I fun _ _ h => h
theorem opl_div {K : PySem.W.Frag} : OpL K (rI CDivW fun i j => .int (i / j)) oDiv := opl_I fun _ _ h => divC_ok h
theorem opl_mod {K : PySem.W.Frag} : OpL K (rI (fun _ j => 0 < j) fun i j => .int (i % j)) oMod := opl_I fun _ _ h => h
theorem opl_lt {K : PySem.W.Frag} : OpL K (rI0 fun i j => .bl (decide (i < j))) oLt := opl_B0
theorem opl_le {K : PySem.W.Frag} : OpL K (rI0 fun i j => .bl (decide (i ≤ j))) oLe := opl_B0
theorem opl_gt {K : PySem.W.Frag} : OpL K (rI0 fun i j => .bl (decide (j < i))) oGt := opl_B0
def oShl : DO := oI CPow fun i j => i * 2 ^ j.toNat
theorem opl_shl {K : PySem.W.Frag} : OpL K (rI CPow fun i j => .int (i * 2 ^ j.toNat)) oShl := opl_I fun _ _ h => h
def oNeg : DO1 := fun x m Φ => match x with
  | .int i => Φ (.int (-i)) m
  | _ => False
theorem opl_idiv {K : PySem.W.Frag} : OpL K (rI CDiv fun i j => .int (i / j)) (oI CDiv fun i j => i / j) := opl_I fun _ _ h => h

/-- every parameter is given -/
abbrev BA (fd : FuncData) (ps : List Str) : Prop := ∀ us : List Value, us.length = ps.length → bindArgs fd ⟨us, []⟩ = pure (ps.zip us)
/-- a def stands and keeps its worth -/
def Ok (P : Program) (w : World) (K : PySem.W.Frag) (mg : Str → Option Value) (base : Heap) (x : Str) (lv : Nat) (ps : List Str) (C : DC) : Prop :=
  ∃ f fd, mg x = some (.ref f) ∧ PySem.W.keepIn K (.ref f) = true ∧ BA fd ps ∧ FnOk P w K mg base (L2.CX P w) lv f fd ps (spOf K ps.length C)
/-- a def as the top has written it -/
def DefT (K : PySem.W.Frag) (mg : Str → Option Value) (x : Str) (st : Stmt) (ps : List Str) : Prop := ∃ f fd, Fun K x x st f fd ∧ mg x = some (.ref f) ∧ BA fd ps
theorem Ok.mono {P : Program} {w : World} {K : PySem.W.Frag} {mg : Str → Option Value} {base : Heap} {x : Str} {lv lv' : Nat} {ps : List Str} {C : DC} (h : Ok P w K mg base x lv ps C) (l : lv ≤ lv') : Ok P w K mg base x lv' ps C := by
  obtain ⟨f, fd, a, b, c, d⟩ := h
  exact ⟨f, fd, a, b, c, d.mono l⟩
/-- a weaker worth -/
theorem Ok.imp {P : Program} {w : World} {K : PySem.W.Frag} {mg : Str → Option Value} {base : Heap} {x : Str} {lv : Nat} {ps : List Str} {C C' : DC} (h : Ok P w K mg base x lv ps C) (i : ∀ ds m Φ Ψ, C' ds m Φ Ψ → C ds m Φ Ψ) : Ok P w K mg base x lv ps C' := by
  obtain ⟨f, fd, a, b, c, d⟩ := h
  exact ⟨f, fd, a, b, c, d.imp fun vs H Q E ⟨z, w, ds, m, Φ, Ψ, q1, q2, q3, q4, q5⟩ => ⟨z, w, ds, m, Φ, Ψ, q1, q2, q3, q4, i _ _ _ _ q5⟩⟩
section
variable {X : Cx} {E : WX} {pos p : Pos} {e : Expr} {es : List Expr} {Ws : DA} {x : Str} {k : Nat} {ps : List Str} {C : DC}
theorem je_callO (G : Ok X.prog X.w X.K X.mg X.base x k ps C) (tk : Takes X E) (hr : Room k X.A) (hg : Gl X x) (ha : JA X E (e :: es) Ws) (n : Nat) (hn : ps.length = n := by rfl) (hdb : (x == ("__debug__" : Str)) = false := by decide)
    (he : starEach (e :: es) X.env = (false, eval e X.env) :: starEach es X.env := by rfl) (hpl : (backTo pos (starEach es X.env)).any (·.1) = false := by rfl) : JE X E (.Call (.Name x p) (e :: es) [] pos) (dCall n C Ws) := by
  subst hn
  obtain ⟨f, fd, hm, kp, b, F⟩ := G
  exact je_call tk F hr hg hm kp (Binds.all b) ha hdb he hpl
end
/-- the law's own worth -/
def CLaw (C : List Int → MM → (D → MM → Prop) → Prop) : DC := fun ds m Φ _ => ∃ ns, ds = [.rol (ns.map D.int)] ∧ C ns m Φ
def ClawT : List Int → MM → (D → MM → Prop) → Prop := fun ns m Φ => ns.length ≤ 63 ∧ m = ⟨[], 0⟩ ∧ ∀ m', Φ (.bl true) m'
theorem repAll_ints {K : PySem.W.Frag} {w : Wd} : ∀ (ns : List Int), RepAll K w (ns.map D.int) (ns.map V.int)
  | [] => rfl
  | n :: ns => ⟨.int n, _, rfl, rfl, repAll_ints ns⟩
theorem law_sp {K : PySem.W.Frag} {H : Hp} {a : Addr} {ns : List Int} (hl : ns.length ≤ 63) (hS : SqL K H a (ns.map V.int)) : spOf K 1 (CLaw ClawT) [.ref a] H (fun v _ => v = .bl true) fun _ _ _ => False := by
  refine ⟨rfl, ⟨H, [], none⟩, [.rol (ns.map D.int)], ⟨[], 0⟩, fun d _ => d = .bl true, fun _ _ _ => False, ?_, ?_, ?_, ?_, ns, rfl, hl, rfl, fun _ => rfl⟩
  · exact ⟨fun _ _ h => h, rfl, List.nodup_nil, fun k a o e => by simp at e, fun k a o e => by simp at e, (fun _ S e => nomatch e), ⟨fun _ => rfl, fun e => nomatch e⟩⟩
  · exact ⟨_, [], rfl, ⟨a, _, rfl, hS, repAll_ints ns⟩, rfl⟩
  · intro d m' w' H' v l h r q
    subst q
    exact r
  · intro _ _ _ _ _ _ _ _ _ _ _ q
    exact q.elim
theorem cx_false {P : Program} {w : World} {H : Hp} {s : Shared} {e : Value} {s' : Shared} (h : L2.CX P w [] H s (fun _ _ _ => False) e s') : False := by
  obtain ⟨_, _, _, _, _, _, _, _, _, _, _, _, z⟩ := h
  exact z.elim

/-! ### reasoning -/
/-- over the items of a list of anything -/
theorem forW_map {α : Type} {inj : α → D} {g : DG} {body : DS} {N : DN} {Ψ : XS} (I : List α → Env → MM → Prop) (hs : ∀ d r (k : Env → MM → Prop), (∀ ρ m, I r ρ m → k ρ m) → ∀ ρ m, I (d :: r) ρ m → g (inj d) ρ m (fun ρ1 m1 => body { N with nx := k, ct := k, bk := N.nx } Ψ ρ1 m1))
    (hd : ∀ ρ m, I [] ρ m → N.nx ρ m) : ∀ (ds : List α) (ρ : Env) (m : MM), I ds ρ m → forW g body N Ψ (ds.map inj) ρ m
  | [], ρ, m, h => hd ρ m h
  | d :: r, ρ, m, h => hs d r _ (fun ρ m => forW_map I hs hd r ρ m) ρ m h
/-- over a range: I at the number of turns done -/
theorem forW_rng {lo : Int} {n : Nat} {g : DG} {body : DS} {N : DN} {Ψ : XS} (I : Nat → Env → MM → Prop) (hs : ∀ i (k : Env → MM → Prop), i < n → (∀ ρ m, I (i + 1) ρ m → k ρ m) → ∀ ρ m, I i ρ m → g (.int (lo + (i : Nat))) ρ m (fun ρ1 m1 => body { N with nx := k, ct := k, bk := N.nx } Ψ ρ1 m1))
    (hd : ∀ ρ m, I n ρ m → N.nx ρ m) {ρ : Env} {m : MM} (h : I 0 ρ m) : forW g body N Ψ (rngD lo n) ρ m := by
  have key : ∀ (k i : Nat), i + k = n → ∀ ρ m, I i ρ m → forW g body N Ψ ((List.range' i k).map fun (j : Nat) => D.int (lo + (j : Nat))) ρ m := by
    intro k
    induction k with
    | zero =>
      intro i e ρ m h
      have e : i = n := by omega
      subst e
      exact hd ρ m h
    | succ k ih =>
      intro i e ρ m h
      rw [List.range'_succ]
      exact hs i _ (by omega) (fun ρ m h => ih (i + 1) (by omega) ρ m h) ρ m h
  unfold rngD
  rw [List.range_eq_range']
  exact key n 0 (by omega) ρ m h
inductive All2 {α β : Type} (R : α → β → Prop) : List α → List β → Prop where
  | nil : All2 R [] []
  | cons {a b as bs} : R a b → All2 R as bs → All2 R (a :: as) (b :: bs)
theorem All2.length {α β : Type} {R : α → β → Prop} {as : List α} {bs : List β} (h : All2 R as bs) : as.length = bs.length := by
  induction h with
  | nil => rfl
  | cons _ _ ih => rw [List.length_cons, List.length_cons, ih]
/-- a comprehension whose items are some y with R x y -/
theorem lcW_any {α β : Type} {inj : α → D} {out : β → D} {g : DG} {te : DE} {ρ : Env} {Φ : D → MM → Prop} (R : α → β → Prop) (m : MM)
    (hg : ∀ x (m' : MM) (Θ : D → MM → Prop), m'.s = m.s → (∀ y, R x y → Θ (out y) m') → g (inj x) ρ m' (fun ρ1 m1 => m1 = m' ∧ te ρ1 m' Θ XF)) (hc : ∀ y, clD m.M.length (out y) = true) :
    ∀ (xs : List α) (acc : List D), acc.length + xs.length ≤ LIM → (∀ ys, All2 R xs ys → Φ (.lst (acc ++ ys.map out)) m) → lcW g dYes te ρ Φ (xs.map inj) acc m
  | [], acc, _, h => by
    have z := h [] .nil
    rw [List.map_nil, List.append_nil] at z
    exact z
  | x :: xs, acc, hl, h => by
    rw [List.length_cons] at hl
    have z := hg x (m.push (.lst acc)) (fun y m3 => m3 = m.push (.lst acc) ∧ acc.length < LIM ∧ clD m.M.length y = true ∧ lcW g dYes te ρ Φ (xs.map inj) (acc ++ [y]) m) rfl (fun y hy => ⟨rfl, by omega, hc y, lcW_any R m hg hc xs (acc ++ [out y]) (by rw [List.length_append, List.length_singleton]; omega) fun ys hys => by
      have q := h (y :: ys) (.cons hy hys)
      rw [List.map_cons] at q
      rw [List.append_assoc]
      exact q⟩)
    show g (inj x) ρ _ _
    have key : (fun (ρ1 : Env) (m1 : MM) => m1 = m.push (.lst acc) ∧ te ρ1 (m.push (.lst acc)) (fun y m3 => m3 = m.push (.lst acc) ∧ acc.length < LIM ∧ clD m.M.length y = true ∧ lcW g dYes te ρ Φ (xs.map inj) (acc ++ [y]) m) XF)
        = (fun ρ1 m1 => m1 = m.push (.lst acc) ∧ dYes ρ1 (m.push (.lst acc)) (fun b m2 => m2 = m.push (.lst acc) ∧ if b = true then te ρ1 (m.push (.lst acc)) (fun y m3 => m3 = m.push (.lst acc) ∧ acc.length < LIM ∧ clD m.M.length y = true ∧ lcW g dYes te ρ Φ (xs.map inj) (acc ++ [y]) m) XF
          else lcW g dYes te ρ Φ (xs.map inj) acc m) XF) := by
      funext ρ1 m1
      unfold dYes
      simp
    rw [key] at z
    exact z
theorem All2.fn {α β : Type} {f : α → β} : ∀ {as : List α} {bs : List β}, All2 (fun a b => b = f a) as bs → bs = as.map f
  | _, _, .nil => rfl
  | _, _, .cons e h => by rw [e, h.fn]; rfl
/-- a comprehension of a function's values -/
theorem lcW_fn {α β : Type} {inj : α → D} {out : β → D} {g : DG} {te : DE} {ρ : Env} {Φ : D → MM → Prop} (f : α → β) (m : MM) (xs : List α)
    (hg : ∀ x ∈ xs, ∀ (m' : MM) (Θ : D → MM → Prop), Θ (out (f x)) m' → g (inj x) ρ m' (fun ρ1 m1 => m1 = m' ∧ te ρ1 m' Θ XF)) (hc : ∀ y, clD m.M.length (out y) = true) (hl : xs.length ≤ LIM) (h : Φ (.lst ((xs.map f).map out)) m) :
    lcW g dYes te ρ Φ (xs.map inj) [] m := by
  have key : ∀ (ys : List α), (∀ x ∈ ys, x ∈ xs) → ∀ (acc : List D), acc.length + ys.length ≤ LIM → Φ (.lst (acc ++ (ys.map f).map out)) m → lcW g dYes te ρ Φ (ys.map inj) acc m := by
    intro ys
    induction ys with
    | nil => intro _ acc _ h; rw [List.map_nil, List.map_nil, List.append_nil] at h; exact h
    | cons x ys ih =>
      intro hx acc hl h
      rw [List.length_cons] at hl
      have z := hg x (hx x List.mem_cons_self) (m.push (.lst acc)) (fun y m3 => m3 = m.push (.lst acc) ∧ acc.length < LIM ∧ clD m.M.length y = true ∧ lcW g dYes te ρ Φ (ys.map inj) (acc ++ [y]) m) ⟨rfl, by omega, hc _, ih (fun y hy => hx y (List.mem_cons_of_mem _ hy)) (acc ++ [out (f x)]) (by rw [List.length_append, List.length_singleton]; omega) (by
        rw [List.map_cons, List.map_cons] at h
        rw [List.append_assoc]
        exact h)⟩
      have key : (fun (ρ1 : Env) (m1 : MM) => m1 = m.push (.lst acc) ∧ te ρ1 (m.push (.lst acc)) (fun y m3 => m3 = m.push (.lst acc) ∧ acc.length < LIM ∧ clD m.M.length y = true ∧ lcW g dYes te ρ Φ (ys.map inj) (acc ++ [y]) m) XF)
          = (fun ρ1 m1 => m1 = m.push (.lst acc) ∧ dYes ρ1 (m.push (.lst acc)) (fun b m2 => m2 = m.push (.lst acc) ∧ if b = true then te ρ1 (m.push (.lst acc)) (fun y m3 => m3 = m.push (.lst acc) ∧ acc.length < LIM ∧ clD m.M.length y = true ∧ lcW g dYes te ρ Φ (ys.map inj) (acc ++ [y]) m) XF
            else lcW g dYes te ρ Φ (ys.map inj) acc m) XF) := by
        funext ρ1 m1
        unfold dYes
        simp
      rw [key] at z
      exact z
  exact key xs (fun x h => h) [] (by rw [List.length_nil]; omega) (by rw [List.nil_append]; exact h)
theorem rngD0 {n : Nat} : rngD 0 n = (List.range n).map fun i : Nat => D.int (i : Nat) := by
  unfold rngD
  simp only [Int.zero_add]
/-- over range(n) -/
theorem forW_nat {n : Nat} {g : DG} {body : DS} {N : DN} {Ψ : XS} (I : Nat → Env → MM → Prop) (hs : ∀ i (k : Env → MM → Prop), i < n → (∀ ρ m, I (i + 1) ρ m → k ρ m) → ∀ ρ m, I i ρ m → g (.int (i : Nat)) ρ m (fun ρ1 m1 => body { N with nx := k, ct := k, bk := N.nx } Ψ ρ1 m1))
    (hd : ∀ ρ m, I n ρ m → N.nx ρ m) {ρ : Env} {m : MM} (h : I 0 ρ m) : forW g body N Ψ ((List.range n).map fun i : Nat => D.int (i : Nat)) ρ m := by
  rw [← rngD0]
  exact forW_rng I (fun i k hi hk ρ m h => by rw [Int.zero_add]; exact hs i k hi hk ρ m h) hd h
theorem clAll_ints {n : Nat} : ∀ (xs : List Int), clAll n (xs.map D.int) = true
  | [] => rfl
  | x :: xs => by
    show (true && clAll n (xs.map D.int)) = true
    rw [clAll_ints xs]; rfl
theorem bt_len : bootBuiltins "len" = some (.builtin "len") := by decide +kernel
theorem bt_abs : bootBuiltins "abs" = some (.builtin "abs") := by decide +kernel
theorem bt_sum : bootBuiltins "sum" = some (.builtin "sum") := by decide +kernel
theorem bt_max : bootBuiltins "max" = some (.builtin "max") := by decide +kernel
theorem bt_repr : bootBuiltins "repr" = some (.builtin "repr") := by decide +kernel
theorem bt_all : bootBuiltins "all" = some (.builtin "all") := by decide +kernel
theorem bt_int : bootBuiltins "int" = some (.type "int") := by decide +kernel
theorem bt_list : bootBuiltins "list" = some (.type "list") := by decide +kernel
end Dl

namespace Dl
open PySem L2 PyProof.Rows

/-! ### further walks -/
section
variable {X : Cx} {E : WX} {a b c : Expr} {Ws : DA} {pos p tpos : Pos} {elts : List Expr} {kk : Nat}
theorem HRep.newTup {K : PySem.W.Frag} {w : Wd} {m : MM} {H : Hp} {T : Addr} {ds : List D} {xs : List V} (h : HRep K w m H) (hT : H T = none) (r : RepAll K w ds xs) : ∃ w', w.le w' ∧ HRep K w' m (upd H T (.tup xs)) ∧ Rep K w' (.tup ds) (.ref T) :=
  ⟨w.put T (.tup xs), Wd.le_put (h.nof hT), h.put hT, rep_put_tup h hT r⟩
def enumD : Nat → List D → List D
  | _, [] => []
  | i, d :: ds => .tup [.int (i : Nat), d] :: enumD (i + 1) ds
theorem enumD_len : ∀ (ds : List D) (i : Nat), (enumD i ds).length = ds.length
  | [], _ => rfl
  | d :: ds, i => by
    show (enumD (i + 1) ds).length + 1 = ds.length + 1
    rw [enumD_len ds]
theorem enumD_get : ∀ (ds : List D) (i j : Nat) (d : D), (enumD i ds)[j]? = some d → ∃ x, ds[j]? = some x ∧ d = .tup [.int ((i + j : Nat) : Int), x]
  | [], _, _, _, h => by simp [enumD] at h
  | x :: ds, i, 0, d, h => by
    have h : some (D.tup [.int (i : Nat), x]) = some d := h
    cases h
    exact ⟨x, rfl, rfl⟩
  | x :: ds, i, j + 1, d, h => by
    have h : (enumD (i + 1) ds)[j]? = some d := h
    obtain ⟨y, e, rfl⟩ := enumD_get ds (i + 1) j d h
    exact ⟨y, e, by rw [show i + 1 + j = i + (j + 1) by omega]⟩
def diEnumerate (r : DA) : DI := fun ρ m Φ Ψ => r ρ m (fun ds m1 => match ds with
  | [d] => match asF d with
    | some xs => Φ (enumD 0 xs) m1
    | none => False
  | _ => False) Ψ
theorem wlk_enum {K : PySem.W.Frag} {w : Wd} {a : Addr} {xs : List V} {ds : List D} (q : SqL K w.F a xs) (r : RepAll K w ds xs) : Wlk K w (Ite K a) (enumD 0 ds) where
  go := fun w1 m H i d l h e => by
    obtain ⟨y, e9, _⟩ := enumD_get _ _ _ _ e
    obtain ⟨v, e1, _⟩ := r.get e9
    exact ⟨xs, v, sql_mono (fun a o z => h.ext a o (l.F a o z)) q, e1⟩
  stop := fun w1 m H l h => ⟨xs, sql_mono (fun a o z => h.ext a o (l.F a o z)) q, Nat.le_of_eq (by rw [enumD_len]; exact r.length)⟩
  yld := fun w1 m H i d x H' l h e y => by
    obtain ⟨T, y, rfl, hT, rfl, hy⟩ := y
    obtain ⟨z, e9, rfl⟩ := enumD_get _ _ _ _ e
    obtain ⟨v, e1, rv⟩ := r.get e9
    have z2 := hy xs (sql_mono (fun a o z => h.ext a o (l.F a o z)) q)
    rw [e1] at z2; cases z2
    exact h.newTup hT ⟨_, _, rfl, by rw [Nat.zero_add]; rfl, _, _, rfl, Rep.mono l _ _ rv, rfl⟩
theorem ji_enumerate (hg : Gl X "enumerate") (hm : X.mg "enumerate" = none) (ha : JA X E [a] Ws) (hs : starEach [a] X.env = [(false, eval a X.env)] := by rfl) : JI X E (.Tuple elts kk tpos) (.Call (.Name "enumerate" p) [a] [] pos) (diEnumerate Ws) :=
  PI.imp (pi_enum hg hm ha hs) fun σ H R ⟨w, ρ, m, Ψ, Φ, a, n, h⟩ => by
  refine ⟨w, ρ, m, Ψ, _, a, fun ds m1 w1 H1 vs l1 h1 r1 q1 => ?_, h⟩
  split at q1
  · obtain ⟨v, rfl, rv⟩ := rep1 r1
    split at q1
    · rename_i e
      obtain ⟨a, xs, rfl, q, r⟩ := asF_ok e rv
      exact ⟨a, xs, rfl, sql_mono h1.ext q, n _ m1 w1 H1 _ l1 h1 (wlk_enum q r) q1⟩
    · exact q1.elim
  · exact q1.elim
def zipD : List D → List D → List D
  | x :: xs, y :: ys => .tup [x, y] :: zipD xs ys
  | _, _ => []
theorem zipD_get : ∀ (xs ys : List D) (j : Nat) (d : D), (zipD xs ys)[j]? = some d → ∃ x y, xs[j]? = some x ∧ ys[j]? = some y ∧ d = .tup [x, y]
  | [], _, _, _, h => by simp [zipD] at h
  | _ :: _, [], _, _, h => by simp [zipD] at h
  | x :: xs, y :: ys, 0, d, h => by
    have h : some (D.tup [x, y]) = some d := h
    cases h
    exact ⟨x, y, rfl, rfl, rfl⟩
  | x :: xs, y :: ys, j + 1, d, h => zipD_get xs ys j d h
theorem zipD_len : ∀ (xs ys : List D), (zipD xs ys).length = min xs.length ys.length
  | [], _ => by simp [zipD]
  | _ :: _, [] => by simp [zipD]
  | x :: xs, y :: ys => by
    show (zipD xs ys).length + 1 = _
    rw [zipD_len xs ys, List.length_cons, List.length_cons]; omega
def diZip (r : DA) : DI := fun ρ m Φ Ψ => r ρ m (fun ds m1 => match ds with
  | [d, e] => match asF d, asF e with
    | some xs, some ys => Φ (zipD xs ys) m1
    | _, _ => False
  | _ => False) Ψ
theorem wlk_zip {K : PySem.W.Frag} {w : Wd} {a b : Addr} {xs ys : List V} {ds es : List D} (q : SqL K w.F a xs) (r : RepAll K w ds xs) (q2 : SqL K w.F b ys) (r2 : RepAll K w es ys) : Wlk K w (Itz K a b) (zipD ds es) where
  go := fun w1 m H i d l h e => by
    obtain ⟨x, y, e1, e2, _⟩ := zipD_get _ _ _ _ e
    obtain ⟨v, f1, _⟩ := r.get e1
    obtain ⟨u, f2, _⟩ := r2.get e2
    exact ⟨xs, ys, v, u, sql_mono (fun a o z => h.ext a o (l.F a o z)) q, sql_mono (fun a o z => h.ext a o (l.F a o z)) q2, f1, f2⟩
  stop := fun w1 m H l h => ⟨xs, ys, sql_mono (fun a o z => h.ext a o (l.F a o z)) q, sql_mono (fun a o z => h.ext a o (l.F a o z)) q2, by rw [zipD_len, r.length, r2.length]; omega⟩
  yld := fun w1 m H i d x H' l h e y => by
    obtain ⟨T, x1, y1, rfl, hT, rfl, hx, hy⟩ := y
    obtain ⟨x, y, e1, e2, rfl⟩ := zipD_get _ _ _ _ e
    obtain ⟨v, f1, rv⟩ := r.get e1
    obtain ⟨u, f2, ru⟩ := r2.get e2
    have z1 := hx xs (sql_mono (fun a o z => h.ext a o (l.F a o z)) q)
    have z2 := hy ys (sql_mono (fun a o z => h.ext a o (l.F a o z)) q2)
    rw [f1] at z1; cases z1
    rw [f2] at z2; cases z2
    exact h.newTup hT ⟨_, _, rfl, Rep.mono l _ _ rv, _, _, rfl, Rep.mono l _ _ ru, rfl⟩
theorem ji_zip (hg : Gl X "zip") (hm : X.mg "zip" = none) (ha : JA X E [a, b] Ws) (hs : starEach [a, b] X.env = (false, eval a X.env) :: starEach [b] X.env := by rfl) (hpl : (backTo pos (starEach [b] X.env)).any (·.1) = false := by rfl) :
    JI X E (.Tuple elts kk tpos) (.Call (.Name "zip" p) [a, b] [] pos) (diZip Ws) := PI.imp (pi_zip hg hm ha hs hpl) fun σ H R ⟨w, ρ, m, Ψ, Φ, a, n, h⟩ => by
  refine ⟨w, ρ, m, Ψ, _, a, fun ds m1 w1 H1 vs l1 h1 r1 q1 => ?_, h⟩
  split at q1
  · obtain ⟨v, u, rfl, rv, ru⟩ := rep2 r1
    split at q1
    · rename_i e1 e2
      obtain ⟨a, xs, rfl, q, r⟩ := asF_ok e1 rv
      obtain ⟨b, ys, rfl, q2, r2⟩ := asF_ok e2 ru
      exact ⟨a, b, xs, ys, rfl, sql_mono h1.ext q, sql_mono h1.ext q2, n _ m1 w1 H1 _ l1 h1 (wlk_zip q r q2 r2) q1⟩
    · exact q1.elim
  · exact q1.elim
def diReversed (r : DA) : DI := fun ρ m Φ Ψ => r ρ m (fun ds m1 => match ds with
  | [d] => match asF d with
    | some xs => Φ xs.reverse m1
    | none => False
  | _ => False) Ψ
end

/-! ### a comprehension whose list changes later -/
def lcWM (g : DG) (tt : DT) (te : DE) (ρ : Env) (Φ : D → MM → Prop) : List D → List D → MM → Prop
  | [], acc, m => Φ (.hnd m.M.length) (m.push (.lst acc))
  | d :: ds, acc, m => g d ρ (m.push (.lst acc)) fun ρ1 m1 => m1 = m.push (.lst acc) ∧ tt ρ1 (m.push (.lst acc)) (fun b m2 => m2 = m.push (.lst acc) ∧ if b = true then
      te ρ1 (m.push (.lst acc)) (fun y m3 => m3 = m.push (.lst acc) ∧ acc.length < LIM ∧ lcWM g tt te ρ Φ ds (acc ++ [y]) m) XF
    else lcWM g tt te ρ Φ ds acc m) XF
def dLcM (it : DI) (g : DG) (tt : DT) (te : DE) (vs : List Nat) : DE := fun ρ m Φ Ψ => it ρ m (fun ds m1 => lcWM g tt te (wipeD ρ vs) Φ ds [] m1) Ψ
theorem lcM_ok {K : PySem.W.Frag} {E : WX} {wi : DI} {g : DG} {tt : DT} {te : DE} {vs : List Nat} {σ : L2.St} {H : Hp} {Q : VK} (h : lift K E (dLcM wi g tt te vs) σ H Q) : tLc (liftI K E wi) (liftG K vs g) (liftT K EF tt) (lift K EF te) vs σ H Q := by
  obtain ⟨w, ρ, m, Ψ, Φ, a, vl, h⟩ := h
  refine ⟨w, ρ, m, Ψ, _, a, fun ds m1 w1 H1 J l1 h1 wk q1 => ?_, h⟩
  intro D hD
  refine ⟨fun i k H => k = ds.length - i ∧ i ≤ ds.length ∧ ∃ w' acc, w1.le w' ∧ HRep K w' (m1.push (.lst acc)) H ∧ w'.th[m1.M.length]? = some D ∧ lcWM g tt te (wipeD ρ vs) Φ (ds.drop i) acc m1, ⟨ds.length, by omega, Nat.zero_le _, w1.add D, [], Wd.le_add, h1.add hD ⟨[], upd_same, rfl⟩, ?_, q1⟩, ?_⟩
  · show (w1.th ++ [D])[m1.M.length]? = some D
    rw [← h1.len, List.getElem?_append_right (Nat.le_refl _)]; simp
  rintro i k H2 ⟨rfl, hi, w2, acc, l2, h2, hD2, q2⟩
  by_cases hlt : i < ds.length
  · have ed : ds[i]? = some ds[i] := List.getElem?_eq_getElem hlt
    have dr : ds.drop i = ds[i] :: ds.drop (i + 1) := List.drop_eq_getElem_cons hlt
    rw [dr] at q2
    refine .inr ⟨wk.go w2 _ H2 i _ l2 h2 ed, fun H' => ∃ w' acc, w1.le w' ∧ HRep K w' (m1.push (.lst acc)) H' ∧ w'.th[m1.M.length]? = some D ∧ lcWM g tt te (wipeD ρ vs) Φ (ds.drop (i + 1)) acc m1, fun H' z => ⟨ds.length - (i + 1), by omega, rfl, hlt, z⟩, fun x H3 y => ?_⟩
    obtain ⟨w3, l3, h3, r3⟩ := wk.yld w2 _ H2 i _ x H3 l2 h2 ed y
    have s3 : Slots K w3 (L2.wipe σ vs) (wipeD ρ vs) := ((a.s.mono l1).mono (l2.trans l3)).wipes vs
    refine ⟨w3, wipeD ρ vs, _, ds[i], _, h3, s3, r3, fun ρ' m' w' H' σ' l h' s' e q => ⟨e.trans wipe_wipe, ?_⟩, q2⟩
    obtain ⟨rfl, q⟩ := q
    refine ⟨w', ρ', _, XF, _, ⟨h', s', xlift_F⟩, fun b m4 w4 H4 l4 h4 q4 => ?_, q⟩
    obtain ⟨rfl, q4⟩ := q4
    have l24 : w2.le w4 := l3.trans (l.trans l4)
    cases b with
    | true =>
      rw [if_pos rfl] at q4
      show (if true = true then _ else _)
      rw [if_pos rfl]
      refine ⟨w4, ρ', _, XF, _, ⟨h4, s'.mono l4, xlift_F⟩, fun y m5 w5 H5 v l5 h5 r5 q5 => ?_, q4⟩
      obtain ⟨rfl, hz, q5⟩ := q5
      have hD5 : w5.th[m1.M.length]? = some D := l5.th _ _ (l24.th _ _ hD2)
      have hM : (m1.push (.lst acc)).M[m1.M.length]? = some (.lst acc) := by
        show (m1.M ++ [MO.lst acc])[m1.M.length]? = _
        rw [List.getElem?_append_right (Nat.le_refl _)]; simp
      obtain ⟨xs, hx, r⟩ := h5.obj _ D _ hD5 hM
      refine ⟨xs, hx, lim_lt (by rw [r.length]; exact hz), w5, acc ++ [y], l2.trans (l24.trans l5), ?_, hD5, q5⟩
      have z := h5.wr (ho := .lst (xs ++ [v])) (o' := .lst (acc ++ [y])) hD5 hM (fun z => by cases z) ⟨_, upd_same, r.append ⟨v, [], rfl, r5, rfl⟩⟩
      have e : (m1.push (.lst acc)).M.set m1.M.length (.lst (acc ++ [y])) = (m1.push (.lst (acc ++ [y]))).M := by
        show (m1.M ++ [MO.lst acc]).set m1.M.length (.lst (acc ++ [y])) = m1.M ++ [MO.lst (acc ++ [y])]
        rw [List.set_append_right _ _ (Nat.le_refl _)]; simp
      rw [e] at z
      exact z
    | false =>
      rw [if_neg Bool.false_ne_true] at q4
      show (if false = true then _ else _)
      rw [if_neg Bool.false_ne_true]
      exact ⟨w4, acc, l2.trans l24, h4, l24.th _ _ hD2, q4⟩
  · have e : i = ds.length := by omega
    subst e
    rw [List.drop_length] at q2
    exact .inl ⟨wk.stop w2 _ H2 l2 h2, vl (.hnd m1.M.length) _ w2 H2 _ (l1.trans l2) h2 ⟨D, rfl, hD2⟩ q2⟩
section
variable {X : Cx} {E : WX}
theorem je_lcM {elt tg iter : Expr} {ifs : List Expr} {scope : Scope} {own : List (Str × Nat)} {pos : Pos} {wi : DI} {g : DG} {tt : DT} {te : DE} (hc : X.calm = true) (hN : X.N.Nodup) (hi : JI X E tg iter wi) (ok : BlkOk X.N X.env.scope scope own)
    (hg : ∀ (s : Shared) (H : Hp) (C : Addr) (cl : List (Str × Addr)) (fp : List Addr), PG (X.blk s H scope (compEnvC scope cl C X.env) fp) tg (liftG X.K (own.map (·.2)) g))
    (ht : ∀ (s : Shared) (H : Hp) (C : Addr) (cl : List (Str × Addr)) (fp : List Addr), PTs (X.blk s H scope (compEnvC scope cl C X.env) fp) ifs (liftT X.K EF tt))
    (he : ∀ (s : Shared) (H : Hp) (C : Addr) (cl : List (Str × Addr)) (fp : List Addr), JE (X.blk s H scope (compEnvC scope cl C X.env) fp) EF elt te) (hs : ∀ x, foldedSetIterable iter X.env x = pure x := by intro _; rfl) :
    JE X E (.ListComp elt [⟨tg, iter, ifs, 0⟩] scope pos) (dLcM wi g tt te (own.map (·.2))) := PE.imp (pe_lc hc hN hi ok hg ht he hs) fun _ _ _ h => lcM_ok h
end

/-! ### the drawing state, opened and closed -/
section
variable {K : PySem.W.Frag} {w : Wd} {m : MM} {H : Hp} {p A c : Addr}
theorem HRep.adopt {o : MO} (h : HRep K w m H) (h0 : m.s ≠ 1) (hp : p ∉ w.th) (hF : w.F p = none) (ob : ORep K (w.add p) H p o) : HRep K (w.add p) (m.push o) H where
  ext := h.ext
  len := by show (w.th ++ [p]).length = (m.M ++ [o]).length; rw [List.length_append, List.length_append, h.len]; rfl
  nd := by
    show (w.th ++ [p]).Nodup
    rw [List.nodup_append]
    refine ⟨h.nd, by simp, fun a ha b hb e => ?_⟩
    have e2 : b = p := by simpa using hb
    subst e2; subst e
    exact hp ha
  obj := fun k a o' q1 q2 => by
    have q1 : (w.th ++ [p])[k]? = some a := q1
    have q2 : (m.M ++ [o])[k]? = some o' := q2
    rcases Nat.lt_or_ge k w.th.length with hk | hk
    · rw [List.getElem?_append_left hk] at q1
      rw [List.getElem?_append_left (by rw [← h.len]; exact hk)] at q2
      exact (h.obj k a o' q1 q2).mono Wd.le_add rfl
    · rw [List.getElem?_append_right hk] at q1
      rw [List.getElem?_append_right (by rw [← h.len]; exact hk)] at q2
      have hk2 : k = w.th.length := by
        have z := (List.getElem?_eq_some_iff.mp q1).1
        simp at z; omega
      subst hk2
      rw [Nat.sub_self] at q1
      rw [h.len, Nat.sub_self] at q2
      simp at q1 q2
      subst q1; subst q2
      exact ob
  thF := fun k a o' q1 q2 q3 => by
    have q1 : (w.th ++ [p])[k]? = some a := q1
    have q2 : (m.M ++ [o])[k]? = some o' := q2
    show w.F a = none
    rcases Nat.lt_or_ge k w.th.length with hk | hk
    · rw [List.getElem?_append_left hk] at q1
      rw [List.getElem?_append_left (by rw [← h.len]; exact hk)] at q2
      exact h.thF k a o' q1 q2 q3
    · rw [List.getElem?_append_right hk] at q1
      have z : a ∈ [p] := List.mem_of_getElem? q1
      have e : a = p := by simpa using z
      rw [e]; exact hF
  ls := fun q => absurd q h0
  flag := h.flag
theorem HRep.turn {s : Nat} (h : HRep K w m H) (h1 : s ≠ 1) (h0 : s ≠ 0) : HRep K w ⟨m.M, s⟩ H := ⟨h.ext, h.len, h.nd, h.obj, h.thF, fun q => absurd q h1, ⟨fun q => absurd q h0, fun q => absurd q h1⟩⟩
theorem repAll_intsD {K : PySem.W.Frag} {w : Wd} : ∀ (ns : List Int), RepAll K w (ns.map D.int) (ns.map V.int)
  | [] => rfl
  | n :: ns => ⟨.int n, _, rfl, rfl, repAll_intsD ns⟩
/-- the lists of the drawing state become our own -/
theorem HRep.opened (h : HRep K w m H) (h1 : m.s = 1) (hS : w.S = some ⟨A, c, 0⟩) : ∃ (cells : List Int) (seed : Int),
    HRep K ((w.add c).add A) ⟨m.M ++ [.lst (cells.map D.int)] ++ [.lst [.hnd m.M.length, .int seed]], 2⟩ H ∧ w.le ((w.add c).add A) := by
  obtain ⟨hok, h2⟩ := h.ls h1 _ hS
  obtain ⟨cells, seed, hA, hc⟩ : ∃ (cells : List Int) (seed : Int), H A = some (.lst [.ref c, .int seed]) ∧ H c = some (.lst (cells.map V.int)) := hok
  have fA := h2 A (by show A ∈ [A, c]; simp)
  have fc := h2 c (by show c ∈ [A, c]; simp)
  have ne : A ≠ c := fun z => by
    rw [← z, hA] at hc
    cases cells with
    | nil => cases hc
    | cons x xs => cases hc
  have g1 := (h.turn (s := 2) (by decide) (by decide)).adopt (o := .lst (cells.map D.int)) (by show (2 : Nat) ≠ 1; decide) fc.2.1 fc.1 ⟨_, hc, repAll_intsD cells⟩
  have g2 := g1.adopt (p := A) (o := .lst [.hnd m.M.length, .int seed]) (by show (2 : Nat) ≠ 1; decide) (by show A ∉ w.th ++ [c]; simp only [List.mem_append, List.mem_singleton, not_or]; exact ⟨fA.2.1, ne⟩) fA.1
    ⟨_, hA, .ref c, _, rfl, ⟨c, rfl, Wd.le_add.th _ _ (by show (w.th ++ [c])[m.M.length]? = some c; rw [← h.len, List.getElem?_append_right (Nat.le_refl _)]; simp)⟩, .int seed, [], rfl, rfl, rfl⟩
  exact ⟨cells, seed, g2, Wd.le_add.trans Wd.le_add⟩
/-- .. and are given back -/
theorem HRep.closed {M0 : List MO} {S : LS} (h : HRep K w m H) (hM : m.M.take M0.length = M0) (hS : w.S = some S) (hc : ∀ o ∈ M0, clO M0.length o = true) (hA : ∀ a ∈ S.fp, ∃ j, M0.length ≤ j ∧ w.th[j]? = some a ∧ ∃ o, m.M[j]? = some o ∧ o ≠ .dead) (ok : S.ok H) :
    HRep K (w.cut M0.length) ⟨M0, 1⟩ H := by
  have z := h.cut (n := M0.length) (by rw [hM]; exact hc)
  have e : (m.cut M0.length).M = M0 := hM
  exact {
    ext := z.ext
    len := by have q := z.len; rw [e] at q; exact q
    nd := z.nd
    obj := fun k a o q1 q2 => z.obj k a o q1 (by rw [e]; exact q2)
    thF := fun k a o q1 q2 q3 => z.thF k a o q1 (by rw [e]; exact q2) q3
    ls := fun _ S' q => by
      have q : w.S = some S' := q
      rw [hS] at q; cases q
      refine ⟨ok, fun a ha => ?_⟩
      obtain ⟨j, hj, e1, o, e2, e3⟩ := hA a ha
      refine ⟨h.thF j a o e1 e2 e3, fun hm => ?_, h.thH (List.mem_of_getElem? e1)⟩
      have hm : a ∈ w.th.take M0.length := hm
      obtain ⟨i, hi, ei⟩ := List.mem_iff_getElem.mp hm
      have hi2 := hi
      rw [List.length_take] at hi2
      have e4 : w.th[i]? = some a := by
        have q : (w.th.take M0.length)[i]? = some a := by rw [List.getElem?_eq_getElem hi, ei]
        rw [List.getElem?_take_of_lt (by omega)] at q
        exact q
      obtain ⟨k1, k2⟩ := List.getElem?_eq_some_iff.mp e1
      obtain ⟨j1, j2⟩ := List.getElem?_eq_some_iff.mp e4
      have ij : j = i := (List.getElem_inj h.nd).mp (k2.trans j2.symm)
      omega
    flag := ⟨fun q => (by cases q), fun _ => by show w.S.isSome = true; rw [hS]; rfl⟩ }
end
/-! the two defs of most laws: the state is made; a number is drawn -/
def C_stateO : DC := fun ds m Φ _ => (∃ ns : List Int, ds = [.rol (ns.map D.int)] ∧ ns.length ≤ 1000) ∧ ∀ (cells : List Int) (seed : Int), Φ (.hnd (m.M.length + 1)) ⟨m.M ++ [.lst (cells.map D.int)] ++ [.lst [.hnd m.M.length, .int seed]], m.s⟩
def C_state : DC := fun ds m Φ _ => (∃ ns : List Int, ds = [.rol (ns.map D.int)] ∧ ns.length ≤ 1000) ∧ m.s = 0 ∧ Φ (.st 0) ⟨m.M, 1⟩
def C_drawO : DC := fun ds m Φ _ => ∃ (k j : Nat) (cells : List Int) (seed n : Int), ds = [.hnd k, .int n] ∧ 0 < n ∧ n < 2 ^ 64 ∧ m.M[k]? = some (.lst [.hnd j, .int seed]) ∧ m.M[j]? = some (.lst (cells.map D.int)) ∧ j ≠ k ∧
  ∀ (r : Int) (cells' : List Int) (seed' : Int), 0 ≤ r → r < n → Φ (.int r) ⟨(m.M.set j (.lst (cells'.map D.int))).set k (.lst [.hnd j, .int seed']), m.s⟩
def C_draw : DC := fun ds m Φ _ => ∃ n : Int, ds = [.st 0, .int n] ∧ m.s = 1 ∧ 0 < n ∧ n < 2 ^ 64 ∧ ∀ r : Int, 0 ≤ r → r < n → Φ (.int r) m
section
variable {P : Program} {w : World} {K : PySem.W.Frag} {mg : Str → Option Value} {base : Heap} {x : Str} {lv : Nat} {ps : List Str}
theorem Ok.impV {C C' : DC} (h : Ok P w K mg base x lv ps C) (i : ∀ vs H Q E, spOf K ps.length C' vs H Q E → spOf K ps.length C vs H Q E) : Ok P w K mg base x lv ps C' := by
  obtain ⟨f, fd, a, b, c, d⟩ := h
  exact ⟨f, fd, a, b, c, d.imp i⟩
theorem state_close (h : Ok P w K mg base x lv ps C_stateO) : Ok P w K mg base x lv ps C_state := h.impV fun vs H Q E ⟨z, w0, ds, m, Φ, Ψ, h0, r, vl, xl, hds, hs, q⟩ => by
  refine ⟨z, w0, ds, m, fun d m' => ∃ (cells : List Int) (seed : Int), d = .hnd (m.M.length + 1) ∧ m' = ⟨m.M ++ [.lst (cells.map D.int)] ++ [.lst [.hnd m.M.length, .int seed]], m.s⟩, Ψ, h0, r, ?_, xl, hds, fun cells seed => ⟨cells, seed, rfl, rfl⟩⟩
  rintro d m' w' H' v l h' rd ⟨cells, seed, rfl, rfl⟩
  obtain ⟨A, rfl, eA⟩ := rd
  have hS : w'.S = none := h'.flag.1 hs
  have gA : (m.M ++ [MO.lst (cells.map D.int)] ++ [MO.lst [.hnd m.M.length, .int seed]])[m.M.length + 1]? = some (.lst [.hnd m.M.length, .int seed]) := by
    rw [List.append_assoc, List.getElem?_append_right (by omega)]; simp
  have gc : (m.M ++ [MO.lst (cells.map D.int)] ++ [MO.lst [.hnd m.M.length, .int seed]])[m.M.length]? = some (.lst (cells.map D.int)) := by
    rw [List.append_assoc, List.getElem?_append_right (Nat.le_refl _)]; simp
  obtain ⟨xs, hA, v1, r1, rfl, ⟨c, rfl, ec⟩, v2, r2, rfl, e2, e3⟩ := h'.obj _ A _ eA gA
  have e2 : v2 = .int seed := e2
  have e3 : r2 = [] := e3
  subst e2; subst e3
  obtain ⟨ys, hc, ry⟩ := h'.obj _ c _ ec gc
  have ey := ints_ok (ints_map cells) ry
  subst ey
  -- the world with the state
  have lS : w'.le ⟨w'.F, w'.th, some ⟨A, c, 0⟩⟩ := ⟨fun _ _ h => h, fun _ _ h => h, fun S e => by rw [hS] at e; cases e⟩
  have h2 : HRep K ⟨w'.F, w'.th, some ⟨A, c, 0⟩⟩ ⟨m.M ++ [.lst (cells.map D.int)] ++ [.lst [.hnd m.M.length, .int seed]], 2⟩ H' :=
    ⟨h'.ext, h'.len, h'.nd, fun k a o q1 q2 => (h'.obj k a o q1 q2).mono lS rfl, h'.thF, fun q => (by cases q), ⟨fun q => (by cases q), fun q => (by cases q)⟩⟩
  have h3 := h2.closed (M0 := m.M) (S := ⟨A, c, 0⟩) (by show (m.M ++ _ ++ _).take _ = _; rw [List.append_assoc, List.take_left' rfl]) rfl h0.cls (fun a ha => by
    have ha : a ∈ [A, c] := ha
    simp only [List.mem_cons, List.not_mem_nil, or_false] at ha
    rcases ha with rfl | rfl
    · exact ⟨_, by omega, eA, _, gA, fun z => by cases z⟩
    · exact ⟨_, Nat.le_refl _, ec, _, gc, fun z => by cases z⟩) ⟨cells, seed, hA, hc⟩
  exact vl (.st 0) ⟨m.M, 1⟩ _ H' _ (Wd.le_cut (l.trans lS) (Nat.le_of_eq h0.len)) h3 ⟨⟨A, c, 0⟩, rfl, rfl, rfl⟩ q
end
end Dl

namespace Dl
open PySem L2
theorem moL_lst {ds : List D} : moL (some (.lst ds)) = some ds := rfl
theorem atI_cons0 {α : Type} {a : α} {l : List α} : atI (a :: l) 0 = some a := atI_nat (j := 0) rfl
theorem seqIx0 {n : Nat} (h : 0 < n) : seqIndex? 0 n = some 0 := PySem.StrLaws.seqIndex_nonneg (by decide) (by omega)
theorem ixN0 {n : Nat} (h : 0 < n) : ixN n 0 = some 0 := by
  unfold ixN
  rw [if_pos (by decide), if_pos (by omega)]; rfl
local macro_rules | `(tactic| walk_at "dl") => `(tactic| try simp only [dSeq, dSet, dOp, dUn, dVar, dC, dCB, dCons, dNil, dRet, dRetN, dIf, dB, dAnd, dOr, dNot, dDrop, dNext, dMethL, dSetIx, dAndV, dOrV, dNotV, dBlV, dIfE, dLst, dTup, dLstM, dCall, dChain, dAsg, dgName, dgTup, bindD, asT, dFor, diList, diRng1, diRng2, diEnumerate, diZip, diReversed, dLc, dLcM, dYes, wipeD, dAug, dSl, dpN, dpS,
  oI, oI0, oB0, oAdd, oNeg, oEq, oNe, oIx, oIsN, oNotN, isNon, oShl, oApp, oPop, oPopAt, cLen, cInt, cAbs, cSum, cMax2, cMin2, cList, cIsi, tyD, asL, asF, asK, moL_lst, ModC, DivC,
  List.getElem?_cons_zero, List.getElem?_cons_succ, List.set_cons_zero, List.set_cons_succ, List.getElem?_nil, List.length_cons, List.length_nil, List.length_map, Option.map_some, Option.bind_some, Option.isSome_some, if_true, true_and, and_true, MM.push])
theorem lcWM_fn {α β : Type} {inj : α → D} {out : β → D} {g : DG} {te : DE} {ρ : Env} {Φ : D → MM → Prop} (f : α → β) (m : MM) :
    ∀ (xs : List α) (acc : List D), (∀ x ∈ xs, ∀ (m' : MM) (Θ : D → MM → Prop), Θ (out (f x)) m' → g (inj x) ρ m' (fun ρ1 m1 => m1 = m' ∧ te ρ1 m' Θ XF)) → acc.length + xs.length ≤ LIM → Φ (.hnd m.M.length) (m.push (.lst (acc ++ (xs.map f).map out))) →
    lcWM g dYes te ρ Φ (xs.map inj) acc m
  | [], acc, _, _, h => by rw [List.map_nil, List.map_nil, List.append_nil] at h; exact h
  | x :: xs, acc, hg, hl, h => by
    rw [List.length_cons] at hl
    have z := hg x List.mem_cons_self (m.push (.lst acc)) (fun y m3 => m3 = m.push (.lst acc) ∧ acc.length < LIM ∧ lcWM g dYes te ρ Φ (xs.map inj) (acc ++ [y]) m) ⟨rfl, by omega, lcWM_fn f m xs (acc ++ [out (f x)]) (fun y hy => hg y (List.mem_cons_of_mem _ hy)) (by rw [List.length_append, List.length_singleton]; omega) (by
        rw [List.map_cons, List.map_cons] at h
        rw [List.append_assoc]
        exact h)⟩
    have key : (fun (ρ1 : Dl.Env) (m1 : MM) => m1 = m.push (.lst acc) ∧ te ρ1 (m.push (.lst acc)) (fun y m3 => m3 = m.push (.lst acc) ∧ acc.length < LIM ∧ lcWM g dYes te ρ Φ (xs.map inj) (acc ++ [y]) m) XF)
        = (fun ρ1 m1 => m1 = m.push (.lst acc) ∧ dYes ρ1 (m.push (.lst acc)) (fun b m2 => m2 = m.push (.lst acc) ∧ if b = true then te ρ1 (m.push (.lst acc)) (fun y m3 => m3 = m.push (.lst acc) ∧ acc.length < LIM ∧ lcWM g dYes te ρ Φ (xs.map inj) (acc ++ [y]) m) XF
          else lcWM g dYes te ρ Φ (xs.map inj) acc m) XF) := by
      funext ρ1 m1
      unfold dYes
      simp
    rw [key] at z
    exact z
def W_draw1 : DS := dSeq (dSet 2 (dOp oIx (dVar 0) (dC (.int 0)))) (dSeq (dWhile (dAnd (dB (dOp oGt (dCB cLen (dCons (dVar 2) (dNil))) (dC (.int 0)))) (dB (dOp oEq (dOp oIx (dVar 2) (dC (.int 0))) (dC (.int 0))))) (dDrop (dMethL oPopAt (dVar 2) (dCons (dC (.int 0)) (dNil))))) (dSeq (dIf (dB (dOp oGt (dCB cLen (dCons (dVar 2) (dNil))) (dC (.int 0)))) (dSeq (dSet 4 (dOp oIx (dVar 2) (dC (.int 0)))) (dSeq (dSetIx (dOp oDiv (dVar 4) (dVar 1)) (dVar 2) (dC (.int 0))) (dRet (dOp oMod (dCB cInt (dCons (dVar 4) (dNil))) (dVar 1))))) (dNext)) (dSeq (dSet 3 (dOp oMod (dCB cInt (dCons (dOp oAdd (dOp oMul (dOp oIx (dVar 0) (dC (.int 1))) (dC (.int 48271))) (dC (.int 12345))) (dNil))) (dC (.int 2147483647)))) (dSeq (dSetIx (dVar 3) (dVar 0) (dC (.int 1))) (dRet (dOp oMod (dCB cInt (dCons (dOp oDiv (dVar 3) (dC (.int 64))) (dNil))) (dVar 1)))))))
theorem rd_draw1 : ∀ ds m Φ Ψ, ds.length = 2 → C_drawO ds m Φ Ψ → W_draw1 { nx := fun _ m' => Φ .non m', rt := Φ } (fun _ => Ψ) (ds.map some ++ List.replicate (5 - ds.length) none) m := by
  intro ds m Φ Ψ _ h
  obtain ⟨k, j, cells, seed, n, rfl, hn, hn2, hk, hj, hjk, q⟩ := h
  change W_draw1 _ _ [some (D.hnd k), some (D.int n), none, none, none] m
  unfold W_draw1
  have jl : j < m.M.length := (List.getElem?_eq_some_iff.mp hj).1
  have kl : k < m.M.length := (List.getElem?_eq_some_iff.mp hk).1
  have setj : ∀ x, (m.M.set j x)[j]? = some x := fun x => List.getElem?_set_self jl
  have setk : ∀ x, (m.M.set j x)[k]? = some (.lst [.hnd j, .int seed]) := fun x => by rw [List.getElem?_set_ne hjk]; exact hk
  walk_at "dl"
  simp only [hk, moL_lst]
  refine ⟨_, rfl, ?_⟩
  refine ⟨fun c ρ m' => ∃ cs : List Int, c = cs.length ∧ ρ = [some (D.hnd k), some (D.int n), some (D.hnd j), none, none] ∧ m' = ⟨m.M.set j (.lst (cs.map D.int)), m.s⟩, ⟨_, cells, rfl, rfl, ?_⟩, ?_⟩
  · obtain ⟨M, s⟩ := m
    show (⟨M, s⟩ : MM) = ⟨M.set j _, s⟩
    congr 1
    apply List.ext_getElem?
    intro i
    by_cases hi : j = i
    · subst hi; rw [setj]; exact hj
    · rw [List.getElem?_set_ne hi]
  · rintro c ρ m' ⟨cs, rfl, rfl, rfl⟩
    walk_at "dl"
    simp only [setj, moL_lst]
    walk_at "dl"
    by_cases h0 : (0 : Int) < (cs.length : Nat)
    · obtain ⟨x, r, rfl⟩ : ∃ x r, cs = x :: r := by
        cases cs with
        | nil => simp at h0
        | cons x r => exact ⟨x, r, rfl⟩
      simp only [decide_eq_true h0, if_true, List.map_cons, atI_cons0]
      refine ⟨D.int x, rfl, rfl, rfl, ?_⟩
      rw [eqD_int]
      by_cases hx : x = 0
      · simp only [decide_eq_true hx, if_true]
        walk_at "dl"
        try simp only [setj, moL_lst, List.map_cons]
        refine ⟨⟨by decide, by decide⟩, 0, .int x, seqIx0 (by simp), rfl, r.length, by simp, r, rfl, ?_⟩
        rw [List.set_set]; rfl
      · simp only [decide_eq_false hx, Bool.false_eq_true, if_false, decide_eq_true h0, if_true]
        walk_at "dl"
        try simp only [setj, moL_lst, List.map_cons, atI_cons0]
        walk_at "dl"
        have h0' : (0 : Int) < ((r.length + 1 : Nat) : Int) := by omega
        try simp only [decide_eq_true h0', if_true]
        refine ⟨D.int x, rfl, ?_⟩
        walk_at "dl"
        try simp only [setj, moL_lst, List.map_cons, atI_cons0]
        refine ⟨⟨hn, hn2⟩, 0, ixN0 (by simp), hn, ?_⟩
        have z := q (x % n) ((x / n) :: r) seed (Int.emod_nonneg _ (by omega)) (Int.emod_lt_of_pos _ hn)
        rw [List.set_set]
        have e : (m.M.set j (.lst (((x / n) :: r).map D.int))).set k (.lst [.hnd j, .int seed]) = m.M.set j (.lst (((x / n) :: r).map D.int)) := by
          apply List.ext_getElem?
          intro i
          by_cases hi : k = i
          · subst hi; rw [List.getElem?_set_self (by rw [List.length_set]; exact kl), setk]
          · rw [List.getElem?_set_ne hi]
        rw [e] at z
        exact z
    · simp only [decide_eq_false h0, Bool.false_eq_true, if_false]
      walk_at "dl"
      try simp only [setj, setk, moL_lst]
      walk_at "dl"
      try simp only [decide_eq_false h0, Bool.false_eq_true, if_false]
      walk_at "dl"
      try simp only [setj, setk, moL_lst]
      refine ⟨_, rfl, ?_⟩
      walk_at "dl"
      try simp only [setj, setk, moL_lst]
      refine ⟨.inr (.inl ⟨by decide, by decide⟩), by decide, 1, rfl, ⟨by decide, by decide⟩, hn, ?_⟩
      exact q _ cs _ (Int.emod_nonneg _ (by omega)) (Int.emod_lt_of_pos _ hn)
def W_state : DS := dSeq (dSet 1 (dC (.int 7))) (dSeq (dFor (diList (dVar 0)) (dgName 2) (dSet 1 (dOp oMod (dCB cInt (dCons (dOp oAdd (dOp oMul (dVar 1) (dC (.int 31))) (dVar 2)) (dNil))) (dC (.int 1000003))))) (dRet (dLstM (dCons (dLcM (diList (dVar 0)) (dgName 2) (dYes) (dCB cAbs (dCons (dVar 2) (dNil))) [2]) (dCons (dOp oAdd (dVar 1) (dC (.int 1))) (dNil))))))
theorem rd_state : ∀ ds m Φ Ψ, ds.length = 1 → C_stateO ds m Φ Ψ → W_state { nx := fun _ m' => Φ .non m', rt := Φ } (fun _ => Ψ) (ds.map some ++ List.replicate (3 - ds.length) none) m := by
  intro ds m Φ Ψ _ h
  obtain ⟨⟨ns, rfl, hlen⟩, q⟩ := h
  change W_state _ _ [some (D.rol (ns.map D.int)), none, none] m
  unfold W_state
  walk_at "dl"
  refine forW_map (inj := D.int) (fun _ ρ m' => ∃ (s : Int) (v : Option D), ρ = [some (D.rol (ns.map D.int)), some (.int s), v] ∧ m' = m) ?_ ?_ ns _ _ ⟨7, none, rfl, rfl⟩
  · rintro x r kk hk ρ m' ⟨s, v, rfl, rfl⟩
    walk_at "dl"
    exact ⟨.inr (.inl ⟨by decide, by decide⟩), by decide, hk _ _ ⟨_, _, rfl, rfl⟩⟩
  · rintro ρ m' ⟨s, v, rfl, rfl⟩
    walk_at "dl"
    refine lcWM_fn (f := fun x => if x < 0 then -x else x) (out := D.int) _ ns [] (fun x _ m2 Θ hΘ => ?_) (by rw [List.length_nil]; show 0 + ns.length ≤ 16777216; omega) ?_
    · walk_at "dl"
      exact hΘ
    · walk_at "dl"
      have z := q (ns.map fun x => if x < 0 then -x else x) (s + 1)
      refine ⟨by decide, ?_⟩
      rw [List.length_append, List.length_singleton, List.nil_append]
      exact z

theorem mulR {i j : Int} (h0 : 0 ≤ j) (h1 : j ≤ 4294967296) : MulC i j := .inr (.inl ⟨by omega, by omega⟩)
theorem mulL {i j : Int} (h0 : 0 ≤ i) (h1 : i ≤ 4294967296) : MulC i j := .inl ⟨by omega, by omega⟩
/-- an item by an int -/
def gi (xs : List Int) (z : Int) : Int := xs.getD z.toNat 0
theorem ixN_of {n : Nat} {z : Int} (h0 : 0 ≤ z) (h : z < n) : ixN n z = some z.toNat := by
  unfold ixN
  rw [if_pos h0, if_pos h]
theorem atI_gi {xs : List Int} {z : Int} (h0 : 0 ≤ z) (h : z < xs.length) : atI (xs.map D.int) z = some (.int (gi xs z)) := by
  unfold atI
  rw [List.length_map, ixN_of h0 h]
  show (xs.map D.int)[z.toNat]? = _
  have hl : z.toNat < xs.length := by omega
  rw [List.getElem?_map, List.getElem?_eq_getElem hl]
  unfold gi
  rw [List.getD_eq_getElem?_getD, List.getElem?_eq_getElem hl]; rfl
theorem atI_map {α : Type} {inj : α → D} {xs : List α} {z : Int} {x : α} (h0 : 0 ≤ z) (h : xs[z.toNat]? = some x) : atI (xs.map inj) z = some (inj x) := by
  have hl := (List.getElem?_eq_some_iff.mp h).1
  unfold atI
  rw [List.length_map, ixN_of h0 (by omega)]
  show (xs.map inj)[z.toNat]? = _
  rw [List.getElem?_map, h]; rfl
theorem forW_enum {α : Type} {inj : α → D} {g : DG} {body : DS} {N : DN} {Ψ : XS} (I : Nat → List α → Dl.Env → MM → Prop) (hs : ∀ i d r (k : Dl.Env → MM → Prop), (∀ ρ m, I (i + 1) r ρ m → k ρ m) → ∀ ρ m, I i (d :: r) ρ m → g (.tup [.int (i : Nat), inj d]) ρ m (fun ρ1 m1 => body { N with nx := k, ct := k, bk := N.nx } Ψ ρ1 m1))
    (hd : ∀ i ρ m, I i [] ρ m → N.nx ρ m) : ∀ (ds : List α) (i : Nat) (ρ : Dl.Env) (m : MM), I i ds ρ m → forW g body N Ψ (enumD i (ds.map inj)) ρ m
  | [], i, ρ, m, h => hd i ρ m h
  | d :: r, i, ρ, m, h => hs i d r _ (fun ρ m => forW_enum I hs hd r (i + 1) ρ m) ρ m h
def C_pick : DC := fun ds m Φ _ => ∃ row, ds = [.st 0, .lst row] ∧ m.s = 1 ∧ 0 < row.length ∧ row.length ≤ 1000 ∧ ∀ d ∈ row, Φ d m
def W_pick : DS := dRet (dOp oIx (dVar 1) (dCall 2 C_draw (dCons (dVar 0) (dCons (dCB cLen (dCons (dVar 1) (dNil))) (dNil)))))
theorem rd_pick : ∀ ds m Φ Ψ, ds.length = 2 → C_pick ds m Φ Ψ → W_pick { nx := fun _ m' => Φ .non m', rt := Φ } (fun _ => Ψ) (ds.map some ++ List.replicate (2 - ds.length) none) m := by
  intro ds m Φ Ψ _ h
  obtain ⟨row, rfl, hs, h0, h1, q⟩ := h
  change W_pick _ _ [some (D.st 0), some (.lst row)] m
  unfold W_pick
  walk_at "dl"
  refine ⟨_, rfl, hs, by omega, by omega, fun r hr0 hr1 => ?_⟩
  walk_at "dl"
  have hl : r.toNat < row.length := by omega
  refine ⟨row[r.toNat], ?_, q _ (List.getElem_mem hl)⟩
  unfold atI
  rw [ixN_of hr0 hr1]
  exact List.getElem?_eq_getElem hl
end Dl

namespace Dl
/-! ### sums and remainders -/
/-- like mod p -/
def Cg (p a b : Int) : Prop := a % p = b % p
section
variable {p a b c d : Int}
theorem Cg.refl : Cg p a a := rfl
theorem Cg.of_eq (h : a = b) : Cg p a b := by rw [h]; exact .refl
theorem Cg.symm (h : Cg p a b) : Cg p b a := Eq.symm h
theorem Cg.trans (h : Cg p a b) (g : Cg p b c) : Cg p a c := Eq.trans h g
theorem Cg.add (h : Cg p a b) (g : Cg p c d) : Cg p (a + c) (b + d) := by
  unfold Cg at *
  rw [Int.add_emod, h, g, ← Int.add_emod]
theorem Cg.mul (h : Cg p a b) (g : Cg p c d) : Cg p (a * c) (b * d) := by
  unfold Cg at *
  rw [Int.mul_emod, h, g, ← Int.mul_emod]
theorem Cg.neg (h : Cg p a b) : Cg p (-a) (-b) := by
  have z := Cg.mul (Cg.refl (p := p) (a := -1)) h
  rw [← Int.neg_eq_neg_one_mul, ← Int.neg_eq_neg_one_mul] at z
  exact z
theorem Cg.sub (h : Cg p a b) (g : Cg p c d) : Cg p (a - c) (b - d) := by
  rw [Int.sub_eq_add_neg, Int.sub_eq_add_neg]
  exact h.add g.neg
theorem Cg.mod : Cg p (a % p) a := Int.emod_emod_of_dvd _ (Int.dvd_refl _)
end
/-- f 0 + … + f (n-1) -/
def S : Nat → (Nat → Int) → Int
  | 0, _ => 0
  | n + 1, f => S n f + f n
theorem S_cg {p : Int} {f g : Nat → Int} : ∀ (n : Nat), (∀ i < n, Cg p (f i) (g i)) → Cg p (S n f) (S n g)
  | 0, _ => .refl
  | n + 1, h => (S_cg n fun i hi => h i (by omega)).add (h n (by omega))
theorem S_eq {f g : Nat → Int} : ∀ (n : Nat), (∀ i < n, f i = g i) → S n f = S n g
  | 0, _ => rfl
  | n + 1, h => by
    show S n f + f n = S n g + g n
    rw [S_eq n fun i hi => h i (by omega), h n (by omega)]
theorem S_pair {f : Nat → Int} : ∀ (n : Nat), S (2 * n) f = S n fun i => f (2 * i) + f (2 * i + 1)
  | 0 => rfl
  | n + 1 => by
    show S (2 * n) f + f (2 * n) + f (2 * n + 1) = S n _ + (f (2 * n) + f (2 * n + 1))
    rw [S_pair n, Int.add_assoc]
theorem S_head {f : Nat → Int} : ∀ (n : Nat), S (n + 1) f = f 0 + S n fun i => f (i + 1)
  | 0 => by show 0 + f 0 = f 0 + 0; omega
  | n + 1 => by
    show S (n + 1) f + f (n + 1) = f 0 + (S n _ + f (n + 1))
    rw [S_head n, Int.add_assoc]
theorem gi_nat {xs : List Int} {n : Nat} : gi xs (n : Nat) = xs.getD n 0 := by
  unfold gi
  rw [Int.toNat_natCast]
theorem gi_app {xs ys : List Int} {n : Nat} : gi (xs ++ ys) (n : Nat) = if n < xs.length then gi xs (n : Nat) else gi ys ((n - xs.length : Nat) : Int) := by
  rw [gi_nat, gi_nat, gi_nat, List.getD_eq_getElem?_getD, List.getElem?_append]
  split <;> rw [List.getD_eq_getElem?_getD]
theorem gi_map {α : Type} {xs : List α} {f : α → Int} {n : Nat} (h : n < xs.length) : gi (xs.map f) (n : Nat) = f (xs[n]) := by
  rw [gi_nat, List.getD_eq_getElem?_getD, List.getElem?_map, List.getElem?_eq_getElem h]; rfl
theorem gi_mapI {xs : List Int} {f : Int → Int} {n : Nat} (h : n < xs.length) : gi (xs.map f) (n : Nat) = f (gi xs (n : Nat)) := by
  rw [gi_map h, gi_nat, List.getD_eq_getElem?_getD, List.getElem?_eq_getElem h]; rfl
theorem gi_range {f : Nat → Int} {n k : Nat} (h : n < k) : gi ((List.range k).map f) (n : Nat) = f n := by
  rw [gi_map (by rw [List.length_range]; exact h), List.getElem_range]
/-- how near the corner z lies to the point: the first number is the lowest bit -/
def wt : List Int → Nat → Int
  | [], _ => 1
  | x :: r, z => (if z % 2 = 1 then x else 1 - x) * wt r (z / 2)
end Dl

namespace Dl
open PySem L2 PyProof.Rows
/-! ### repr: asked by the law's own def alone, where no repr is under way -/
/-- small enough to be written out: depth at most n, weight at most k -/
structure OkR (n k : Nat) (d : D) : Prop where
  lay : okE n d = true
  shw : (toPy d).showable = true
  lvs : (toPy d).leavesShort 13 = true
  wgt : (toPy d).weight ≤ k
def shownD (d : D) : Str := (toPy d).shown
def isSeq : D → Bool
  | .lst _ => true
  | .rol _ => true
  | .tup _ => true
  | .rot _ => true
  | _ => false
def cRepr : DCB := fun ds m Φ => match ds with
  | [d] => OkR 60 1048576 d ∧ isSeq d = true ∧ Φ (.str (shownD d)) m
  | _ => False
def rRepr (K : PySem.W.Frag) : List V → Hp → VK → Prop := fun xs H Q => ∃ a d, xs = [V.ref a] ∧ Dp K H (.ref a) d ∧ d.canLay0 = true ∧ d.depth ≤ 60 ∧ d.showable = true ∧ d.leavesShort 13 = true ∧ d.weight ≤ 1048576 ∧ Q (.str d.shown) H
theorem cbl_repr {K : PySem.W.Frag} : CbL K (rRepr K) cRepr := fun w m H ds vs Q Φ h r vl q => by
  unfold cRepr at q
  split at q
  · rename_i d
    obtain ⟨ok, hq, q⟩ := q
    obtain ⟨v, rfl, rv⟩ := rep1 r
    have hd := dp_of h d v 60 rv ok.lay
    obtain ⟨c1, c2⟩ := okE_lay d 60 ok.lay
    obtain ⟨a, rfl⟩ : ∃ a, v = V.ref a := by
      cases d with
      | lst ds => obtain ⟨a, xs, e, _⟩ := rv; exact ⟨a, e⟩
      | rol ds => obtain ⟨a, xs, e, _⟩ := rv; exact ⟨a, e⟩
      | tup ds => obtain ⟨a, xs, e, _⟩ := rv; exact ⟨a, e⟩
      | rot ds => obtain ⟨a, xs, e, _⟩ := rv; exact ⟨a, e⟩
      | _ => exact absurd hq Bool.false_ne_true
    exact ⟨a, toPy d, rfl, hd, c1, c2, ok.shw, ok.lvs, ok.wgt, vl.str h q⟩
  · exact q.elim
theorem callR_repr {X : Cx} (hg : X.A.guards = some []) (hu : X.A.units + 100 < cLine) : CallR X (.builtin "repr") (rRepr X.K) := by
  rintro pins s σ H xs us Q I rs ⟨a, d, rfl, hd, c1, c2, c3, c4, c5, q⟩
  cases rs with
  | cons r rs =>
    cases rs
    cases r
    obtain ⟨as, rd⟩ := Dp.reads I d (.ref a) (.ref a) hd rfl
    exact repr_of_reads' rd c3 (PyData.noDict_hsm (PyData.hasDict_of_canLay d c1)) hg (by omega) (fun _ _ e => e) (fun h' u tk hk => ⟨.str d.shown, H, I.kept hk, ⟨u, rfl⟩, q⟩) (PyData.shown_fits (by decide) (by decide) c4 c5)
theorem OkR.int {n k : Nat} {i : Int} (h1 : -1000000000000 < i) (h2 : i < 1000000000000) (hk : 40 ≤ k) : OkR n k (.int i) where
  lay := rfl
  shw := by
    show decide (i.natAbs.log2 < 1920) = true

    by_cases h0 : i.natAbs = 0
    · rw [h0]; decide
    · have z := (Nat.log2_lt h0).mpr (show i.natAbs < 2 ^ 40 by omega)
      exact decide_eq_true (Nat.lt_trans z (by decide))
  lvs := decide_eq_true (PyData.shown_int_le (show i.natAbs < 10 ^ 12 by omega))
  wgt := by
    show (if i == 0 then 0 else i.natAbs.log2 + 1) ≤ k
    split
    · omega
    · have h0 : i.natAbs ≠ 0 := by
        rename_i h
        intro z
        apply h
        have : i = 0 := by omega
        rw [this]; rfl
      have := (Nat.log2_lt h0).mpr (show i.natAbs < 2 ^ 40 by omega)
      omega
theorem OkR.str {n k : Nat} {x : Str} (h : PyData.strOk x = true) (hl : (x.cps.toList.all fun c => decide (c < 16 ^ 8)) = true) (hk : x.cps.size ≤ k) : OkR n k (.str x) := ⟨h, rfl, hl, hk⟩
theorem OkR.bl {n k : Nat} {b : Bool} : OkR n k (.bl b) := ⟨rfl, rfl, rfl, Nat.zero_le _⟩
theorem OkR.non {n k : Nat} : OkR n k .non := ⟨rfl, rfl, rfl, Nat.zero_le _⟩
theorem okRs {n k : Nat} : ∀ {ds : List D}, (∀ d ∈ ds, OkR n k d) → okEs n ds = true ∧ PyData.showableAll (toPys ds) = true ∧ PyData.leavesShortAll 13 (toPys ds) = true ∧ PyData.weightAll (toPys ds) ≤ ds.length * (k + 1)
  | [], _ => ⟨rfl, rfl, rfl, by simp [toPys, PyData.weightAll]⟩
  | d :: ds, h => by
    obtain ⟨a, b, c, e⟩ := h d List.mem_cons_self
    obtain ⟨a2, b2, c2, e2⟩ := okRs fun x hx => h x (List.mem_cons_of_mem _ hx)
    refine ⟨?_, ?_, ?_, ?_⟩
    · show (okE n d && okEs n ds) = true
      rw [a, a2]; rfl
    · show (PyData.showable (toPy d) && PyData.showableAll (toPys ds)) = true
      rw [b, b2]; rfl
    · show (PyData.leavesShort 13 (toPy d) && PyData.leavesShortAll 13 (toPys ds)) = true
      rw [c, c2]; rfl
    · show PyData.weight (toPy d) + 1 + PyData.weightAll (toPys ds) ≤ (ds.length + 1) * (k + 1)
      rw [Nat.add_mul, Nat.one_mul]
      omega
theorem OkR.lst {n k j : Nat} {ds : List D} (h : ∀ d ∈ ds, OkR n k d) (hj : ds.length * (k + 1) ≤ j) : OkR (n + 1) j (.lst ds) := by
  obtain ⟨a, b, c, e⟩ := okRs h
  exact ⟨by show (decide (0 < n + 1) && okEs n ds) = true; rw [a]; simp, b, c, Nat.le_trans e hj⟩
theorem OkR.tup {n k j : Nat} {ds : List D} (h : ∀ d ∈ ds, OkR n k d) (hj : ds.length * (k + 1) ≤ j) : OkR (n + 1) j (.tup ds) := by
  obtain ⟨a, b, c, e⟩ := okRs h
  exact ⟨by show (decide (0 < n + 1) && okEs n ds) = true; rw [a]; simp, b, c, Nat.le_trans e hj⟩
theorem OkR.lstMap {n k j : Nat} {α : Type} {f : α → D} {xs : List α} (h : ∀ x ∈ xs, OkR n k (f x)) (hj : xs.length * (k + 1) ≤ j) : OkR (n + 1) j (.lst (xs.map f)) :=
  .lst (fun d hd => by obtain ⟨x, hx, rfl⟩ := List.mem_map.mp hd; exact h x hx) (by rw [List.length_map]; exact hj)

/-! ### the law's own call, the surroundings known -/
/-- what the law's def promises where it is called from the judge's own place -/
def LawAt (P : Program) (w : World) (K : PySem.W.Frag) (mg : Str → Option Value) (base : Heap) (f : Addr) (fd : FuncData) (ps : List Str) (sp : Sp) : Prop :=
  ∀ (s : Shared) (H : Hp) (args : Args) (us : List Value) (vs : List V) (Q : VK) (E : XK), Env0 P w K mg base callerA [] s H → BindsTo s fd args (ps.zip us) → Vals vs us → sp vs H Q E →
    codeAny (model P w) callerA (.call (.ref f) args) (CR (L2.CX P w) [] P w H s Q E) s
section
variable {P : Program} {w : World} {K : PySem.W.Frag} {mg : Str → Option Value} {base : Heap}
theorem lawAt {x qual : Str} {st : Stmt} {f : Addr} {fd : FuncData} {N ps : List Str} {k : Nat} {sp : Sp} (F : Fun K x qual st f fd) (S : FnScope N ps (defScope st)) (len : ∀ vs H Q E, sp vs H Q E → vs.length = ps.length) (hr : Room (k + 1) callerA)
    (go : ∀ (cdv : Value) (s : Shared) (H : Hp) (vs : List V) (Q : VK) (E : XK), Room k (callerA.deeper (envOfC qual (defScope st) s.heap.objs.size f cdv)) → sp vs H Q E →
      ∃ t, PSs (cxOf (L2.CX P w) P w K mg base N qual (defScope st) f cdv callerA [] s H E) (defBody st) t ∧ t { nx := fun _ H' => Q .non H', rt := Q } (start N vs) H) : LawAt P w K mg base f fd ps sp := by
  intro s H args us vs Q E e0 bnd rs ask
  obtain ⟨oc, od, kV, doc, pm, an, cdv, ct, osl, rfl, found, coded⟩ := F.ex
  have inK : K.In s.heap := PySem.W.Frag.In.keeps e0.mod.kin fun b o e => (e0.bs b o e).1
  have free : s.heap.NoLimit := Heap.NoLimit.keeps e0.mod.nolimit fun b o e => (e0.bs b o e).1
  apply codeAny_call_function hr.depth (inK _ _ found) rfl S.co S.gen rfl (PySem.W.codeRec_of inK coded)
  apply bnd
  apply wpAny_newFunctionEnv_cells S.kind
  · rintro ⟨n, v⟩ hn
    rcases S.par n (List.of_mem_zip hn).1 with q | q
    · exact .inl q
    · exact .inr ⟨q, PySem.W.cellsFrom_some _ _ _ (.inl q)⟩
  · rintro _ rfl s1 inside
    refine ⟨free.keeps inside.toInCall.keep, codeAny_func ?_⟩
    obtain ⟨t, steps, told⟩ := go cdv s H vs Q E (hr.deeper _) ask
    have start1 := inv_start (CX := L2.CX P w) (E := E) S hr.hd e0 (len _ _ _ _ ask) rs inside
    refine wpAny_mono (steps.run [] s1 (L2.start N vs) H _ start1 told) ?_ fun e s' z => z
    intro fl s' z
    cases fl with
    | next =>
      obtain ⟨σ', H', J, q⟩ := z
      exact ⟨V.non, H', J.os, J.bare, J.base, J.hok, rfl, q⟩
    | ret u =>
      obtain ⟨v, σ', H', J, rv, q⟩ := z
      exact ⟨v, H', J.os, J.bare, J.base, J.hok, rv, q⟩
    | brk => exact z.choose_spec.choose_spec.2.elim
    | cont => exact z.choose_spec.choose_spec.2.elim
/-- from the reading on data -/
theorem lawAtD {x qual : Str} {st : Stmt} {f : Addr} {fd : FuncData} {N ps : List Str} {k : Nat} {C : DC} {W : DS} (F : Fun K x qual st f fd) (S : FnScope N ps (defScope st)) (hr : Room (k + 1) callerA)
    (hb : ∀ (cdv : Value) (A : Around) (outer : List PySem.Env) (s : Shared) (H : Hp) (E : XK), A.guards = some [] → Room k (A.deeper (envOfC qual (defScope st) s.heap.objs.size f cdv)) → JSs (cxOf (L2.CX P w) P w K mg base N qual (defScope st) f cdv A outer s H E) (wishE E) (defBody st) W)
    (hC : ∀ ds m Φ Ψ, ds.length = ps.length → C ds m Φ Ψ → W { nx := fun _ m' => Φ .non m', rt := Φ } (fun _ => Ψ) (ds.map some ++ List.replicate (N.length - ds.length) none) m) :
    LawAt P w K mg base f fd ps (spOf K ps.length C) := by
  refine lawAt F S (fun vs H Q E h => h.1) hr fun cdv s H vs Q E hr h => ⟨_, hb cdv callerA [] s H E rfl hr, ?_⟩
  obtain ⟨hl, w0, ds, m, Φ, Ψ, h0, r, vl, xl, c⟩ := h
  refine ⟨w0, _, m, fun _ => Ψ, _, ⟨h0, slots_start r, fun ρ σ w1 l1 _ C fs m' w' H' d xs l a b c q => xl C fs m' w' H' d xs (l1.trans l) a b c q⟩, ?_, hC ds m Φ Ψ (r.length.symm.trans hl) c⟩
  exact ⟨fun ρ m' w' H' σ l h' _ q => vl .non m' w' H' _ l h' rfl q, vl, fun _ _ _ _ _ _ _ _ q => q.elim, fun _ _ _ _ _ _ _ _ q => q.elim⟩
/-- the script's place in the tracked heap: tracked unless it is one of the module's own -/
def scriptH (K : PySem.W.Frag) (a : Addr) (vs : List Value) (ns : List Int) : Hp := fun b => if b = a ∧ K.lookup a = none then some (.frz { cls := .type "list", data := .seq vs.toArray } (.lst (ns.map V.int))) else none
theorem scriptH_some {a b : Addr} {vs : List Value} {ns : List Int} {o : HO} (h : scriptH K a vs ns b = some o) : b = a ∧ K.lookup a = none ∧ o = .frz { cls := .type "list", data := .seq vs.toArray } (.lst (ns.map V.int)) := by
  unfold scriptH at h
  split at h
  · rename_i c
    cases h
    exact ⟨c.1, c.2, rfl⟩
  · cases h
theorem law_start {mb : Str → Option Value} {a : Addr} {s : Shared} {vs : List Value} {ns : List Int} (KX : K.In s.heap) (hns : s.heap.Ns mainGlobals mg) (hb : s.heap.Ns builtinsNs mb) (hbb : ∀ x : Str, x ≠ "__name__" → mb x = bootBuiltins x)
    (free : s.heap.NoLimit) (hg : s.gens = #[]) (ha : s.heap.get? a = some { cls := .type "list", data := .seq vs.toArray }) (hi : IntsAre vs ns) (hl : ns.length ≤ sizeLine) :
    SqL K (scriptH K a vs ns) a (ns.map V.int) ∧ Env0 P w K mg (hidT s.heap (scriptH K a vs ns)) callerA [] s (scriptH K a vs ns) ∧
      ∀ u s', CE [] P w (scriptH K a vs ns) s (fun v _ => v = .bl true) u s' → u = .bool true ∧ OldK s.heap s'.heap ∧ s'.os = s.os ∧ AllBare s'.gens := by
  have told := vals_ints hi
  have many := hi.length
  have objA : HOk P w (scriptH K a vs ns) s.heap := fun b o e => by
    obtain ⟨rfl, _, rfl⟩ := scriptH_some e
    exact ⟨ha, by rw [List.length_map]; exact hl, vs, _, told, ha⟩
  have stays : ∀ {b : Addr} {m : Str → Option Value}, s.heap.Ns b m → (hidT s.heap (scriptH K a vs ns)).Ns b m := fun {b m} n => by
    obtain ⟨o, es, ep, e, d, rest⟩ := n
    refine ⟨o, es, ep, hidT_get e ?_, d, rest⟩
    cases z : scriptH K a vs ns b with
    | none => rfl
    | some t =>
      obtain ⟨rfl, _⟩ := scriptH_some z
      rw [ha] at e
      cases e
      cases d
  refine ⟨?_, ⟨rfl, ⟨?_, stays hns, ⟨mb, stays hb, hbb⟩, ?_⟩, fun b o e => of_hidT e, Nat.le_of_eq (hidT_size _ _), trivial, fun b z => absurd z (by simp [frs]), objA, .of_eq hg⟩, ?_⟩
  · cases z : K.lookup a with
    | none => exact .inl (.inr ⟨_, if_pos ⟨rfl, z⟩⟩)
    | some o =>
      have e := KX a o z
      rw [ha] at e
      cases e
      exact .inr ⟨_, vs.toArray, _, z, rfl, rfl, rfl, by rw [List.size_toArray, many]; exact hl, by simpa using told⟩
  · intro b o e
    refine hidT_get (KX b o e) ?_
    cases z : scriptH K a vs ns b with
    | none => rfl
    | some t =>
      obtain ⟨rfl, z2, _⟩ := scriptH_some z
      rw [z2] at e
      cases e
  · obtain ⟨mc, h1, h2⟩ := free
    exact ⟨mc, stays h1, h2⟩
  · rintro u s' ⟨v, H', os, bare, un, hok', r, rfl⟩
    refine ⟨r, OldK.of_keep fun b o e => ?_, os, bare⟩
    cases z : scriptH K a vs ns b with
    | none => exact un.keep b o e z (fun z => absurd z (by simp [frs])) (by simp)
    | some t =>
      obtain ⟨rfl, _, rfl⟩ := scriptH_some z
      have kept := (hok' b _ (un.frzs b _ _ z)).1
      rw [ha] at e
      cases e
      exact kept
end
/-! ### odds and ends -/
/-- a comprehension's scope within another one -/
theorem blkOk_in {X : Cx} {N : List Str} {s : Shared} {H : Hp} {sc scope scope2 : Scope} {C : Addr} {cl : List (Str × Addr)} {fp : List Addr} {own : List (Str × Nat)} (hN : X.N = N) (hs : X.env.scope = sc) (h : BlkOk N (relS scope sc) scope2 own) :
    BlkOk (X.blk s H scope (compEnvC scope cl C X.env) fp).N (X.blk s H scope (compEnvC scope cl C X.env) fp).env.scope scope2 own := by
  subst hN; subst hs
  exact h
theorem room_un {k : Nat} {A : Around} (r : Room k A) : A.units + 100 < cLine := by have := r.un; omega
/-- one statement at a time: what follows is held back -/
theorem dSeq_k {a b : DS} {N : DN} {Ψ : XS} {ρ : Dl.Env} {m : MM} (h : ∀ k : Dl.Env → MM → Prop, k = b N Ψ → a { N with nx := k } Ψ ρ m) : dSeq a b N Ψ ρ m := h _ rfl
def oNeS : DO := fun x y m Φ => match x, y with
  | .str a, .str b => Φ (.bl (!decide (a = b))) m
  | _, _ => False
theorem opl_neS {K : PySem.W.Frag} : OpL K rNe oNeS := fun w m H x y u v Q Φ h r1 r2 vl q => by
  unfold oNeS at q
  split at q
  · cases (show u = V.str _ from r1)
    cases (show v = V.str _ from r2)
    refine ⟨rfl, ?_⟩
    rw [show decide (V.str _ = V.str _) = decide (_ = _) from decide_eq_decide.mpr ⟨fun e => V.str.inj e, fun e => congrArg V.str e⟩]
    exact vl.bl h q
  · exact q.elim
end Dl

namespace Dl
/-! ### primes -/
structure Prim (p : Int) : Prop where
  two : 2 ≤ p
  euc : ∀ a b : Int, p ∣ a * b → p ∣ a ∨ p ∣ b
/-- no number from lo to lo + 2^k - 1 whose square is at most p divides p -/
def noDiv (p : Nat) : Nat → Nat → Bool
  | lo, 0 => (p % lo != 0) || decide (p < lo * lo)
  | lo, k + 1 => noDiv p lo k && noDiv p (lo + 2 ^ k) k
theorem noDiv_ok {p : Nat} : ∀ (k lo : Nat), noDiv p lo k = true → ∀ d, lo ≤ d → d < lo + 2 ^ k → d * d ≤ p → ¬ d ∣ p
  | 0, lo, h, d, h1, h2, h3 => by
    intro h4
    have e : d = lo := by omega
    subst e
    unfold noDiv at h
    have : p % d = 0 := Nat.mod_eq_zero_of_dvd h4
    simp only [this, bne_self_eq_false, Bool.false_or, decide_eq_true_eq] at h
    omega
  | k + 1, lo, h, d, h1, h2, h3 => by
    have h : (noDiv p lo k && noDiv p (lo + 2 ^ k) k) = true := h
    rw [Bool.and_eq_true] at h
    rw [Nat.pow_succ] at h2
    by_cases hd : d < lo + 2 ^ k
    · exact noDiv_ok k lo h.1 d h1 hd h3
    · exact noDiv_ok k (lo + 2 ^ k) h.2 d (by omega) (by omega) h3
theorem prime_nat {p k : Nat} (hp : 2 ≤ p) (hp2 : p < (2 + 2 ^ k) * (2 + 2 ^ k)) (h : noDiv p 2 k = true) : ∀ d, d ∣ p → d = 1 ∨ d = p := by
  intro d hd
  have h0 : 0 < d := Nat.pos_of_dvd_of_pos hd (by omega)
  obtain ⟨e, he⟩ := hd
  by_cases h1 : d = 1
  · exact .inl h1
  by_cases h2 : e = 1
  · exact .inr (by rw [he, h2, Nat.mul_one])
  have e0 : 0 < e := by
    rcases Nat.eq_zero_or_pos e with z | z
    · rw [z, Nat.mul_zero] at he; omega
    · exact z
  have small : ∀ x y : Nat, 2 ≤ x → x ≤ y → p = x * y → False := fun x y hx hxy hxe => by
    have hs : x * x ≤ p := by rw [hxe]; exact Nat.mul_le_mul_left _ hxy
    have hlt : x < 2 + 2 ^ k := by
      rcases Nat.lt_or_ge x (2 + 2 ^ k) with z | z
      · exact z
      · have := Nat.mul_le_mul z z
        omega
    exact noDiv_ok k 2 h x hx hlt hs ⟨y, hxe⟩
  rcases Nat.le_total d e with z | z
  · exact (small d e (by omega) z he).elim
  · exact (small e d (by omega) z (by rw [he, Nat.mul_comm])).elim
theorem prim_of {p : Nat} (hp : 2 ≤ p) (h : ∀ d, d ∣ p → d = 1 ∨ d = p) : Prim (p : Int) := by
  refine ⟨by omega, fun a b hab => ?_⟩
  have hn : p ∣ a.natAbs * b.natAbs := by
    have z := Int.natAbs_dvd_natAbs.mpr hab
    rw [Int.natAbs_mul] at z
    exact z
  rcases h _ (Nat.gcd_dvd_left p a.natAbs) with z | z
  · exact .inr (Int.natAbs_dvd_natAbs.mp (Nat.Coprime.dvd_of_dvd_mul_left z hn))
  · refine .inl (Int.natAbs_dvd_natAbs.mp ?_)
    have g := Nat.gcd_dvd_right p a.natAbs
    rw [z] at g
    exact g
theorem prim_chk {p k : Nat} (h : (decide (2 ≤ p) && decide (p < (2 + 2 ^ k) * (2 + 2 ^ k)) && noDiv p 2 k) = true) : Prim (p : Int) := by
  simp only [Bool.and_eq_true, decide_eq_true_eq] at h
  exact prim_of h.1.1 (prime_nat h.1.1 h.1.2 h.2)
/-! ### remainders by a prime -/
theorem Cg.iff_dvd {p a b : Int} : Cg p a b ↔ p ∣ a - b := Int.emod_eq_emod_iff_emod_sub_eq_zero.trans ⟨Int.dvd_of_emod_eq_zero, Int.emod_eq_zero_of_dvd⟩
theorem Cg.zero_iff {p a : Int} : Cg p a 0 ↔ p ∣ a := by
  rw [Cg.iff_dvd, Int.sub_zero]
theorem Cg.pow {p a b : Int} (h : Cg p a b) : ∀ n : Nat, Cg p (a ^ n) (b ^ n)
  | 0 => by rw [Int.pow_zero, Int.pow_zero]; exact .refl
  | n + 1 => by
    rw [Int.pow_succ, Int.pow_succ]
    exact (Cg.pow h n).mul h
theorem Prim.cancel {p a b c : Int} (P : Prim p) (h : Cg p (a * b) (a * c)) (ha : ¬ Cg p a 0) : Cg p b c := by
  rw [Cg.iff_dvd, ← Int.mul_sub] at h
  rcases P.euc _ _ h with z | z
  · exact absurd (Cg.zero_iff.mpr z) ha
  · exact Cg.iff_dvd.mpr z
theorem Prim.mul_zero {p a b : Int} (P : Prim p) (h : Cg p (a * b) 0) : Cg p a 0 ∨ Cg p b 0 := by
  rw [Cg.zero_iff, Cg.zero_iff]
  exact P.euc _ _ (Cg.zero_iff.mp h)
theorem Prim.one_ne {p : Int} (P : Prim p) : ¬ Cg p 1 0 := fun h => by
  have := P.two
  have h := Int.le_of_dvd (by decide) (Cg.zero_iff.mp h)
  omega
/-- two numbers near each other -/
theorem near_ne {p i j : Int} (h1 : i ≠ j) (h2 : i - j < p) (h3 : j - i < p) : ¬ Cg p (i - j) 0 := fun h => by
  obtain ⟨c, hc⟩ := Cg.zero_iff.mp h
  rcases Int.lt_trichotomy c 0 with z | z | z
  · have : p * c ≤ p * (-1) := Int.mul_le_mul_of_nonneg_left (by omega) (by omega)
    omega
  · rw [z, Int.mul_zero] at hc; omega
  · have : p * 1 ≤ p * c := Int.mul_le_mul_of_nonneg_left (by omega) (by omega)
    omega

/-! ### the small theorem of Fermat -/
def choose : Nat → Nat → Nat
  | _, 0 => 1
  | 0, _ + 1 => 0
  | n + 1, k + 1 => choose n k + choose n (k + 1)
theorem choose_big : ∀ (n k : Nat), n < k → choose n k = 0
  | 0, k + 1, _ => rfl
  | n + 1, k + 1, h => by
    show choose n k + choose n (k + 1) = 0
    rw [choose_big n k (by omega), choose_big n (k + 1) (by omega)]
theorem choose_self : ∀ n : Nat, choose n n = 1
  | 0 => rfl
  | n + 1 => by
    show choose n n + choose n (n + 1) = 1
    rw [choose_self n, choose_big n (n + 1) (by omega)]
theorem choose_abs : ∀ (n k : Nat), (k + 1) * choose (n + 1) (k + 1) = (n + 1) * choose n k
  | 0, 0 => rfl
  | 0, k + 1 => by
    show (k + 1 + 1) * (choose 0 (k + 1) + choose 0 (k + 1 + 1)) = (0 + 1) * choose 0 (k + 1)
    rw [choose_big 0 (k + 1) (by omega), choose_big 0 (k + 1 + 1) (by omega)]; simp
  | n + 1, 0 => by
    have h := choose_abs n 0
    show (0 + 1) * (choose (n + 1) 0 + choose (n + 1) (0 + 1)) = (n + 1 + 1) * 1
    have e : choose (n + 1) 0 = 1 := by unfold choose; rfl
    have e2 : choose n 0 = 1 := by cases n <;> rfl
    rw [e2] at h
    rw [e]; omega
  | n + 1, k + 1 => by
    have h1 := choose_abs n k
    have h2 := choose_abs n (k + 1)
    show (k + 1 + 1) * (choose (n + 1) (k + 1) + choose (n + 1) (k + 1 + 1)) = (n + 1 + 1) * choose (n + 1) (k + 1)
    have h3 : choose (n + 1) (k + 1) = choose n k + choose n (k + 1) := rfl
    rw [Nat.mul_add, h2]
    have e1 : (k + 1 + 1) * choose (n + 1) (k + 1) = (k + 1) * choose (n + 1) (k + 1) + choose (n + 1) (k + 1) := by rw [Nat.add_mul (k + 1), Nat.one_mul]
    have e2 : (n + 1 + 1) * choose (n + 1) (k + 1) = (n + 1) * choose (n + 1) (k + 1) + choose (n + 1) (k + 1) := by rw [Nat.add_mul (n + 1), Nat.one_mul]
    rw [e1, e2, h1]
    have e3 : (n + 1) * choose (n + 1) (k + 1) = (n + 1) * choose n k + (n + 1) * choose n (k + 1) := by rw [h3, Nat.mul_add]
    omega
theorem S_add {f g : Nat → Int} : ∀ n : Nat, S n (fun i => f i + g i) = S n f + S n g
  | 0 => rfl
  | n + 1 => by
    show S n (fun i => f i + g i) + (f n + g n) = S n f + f n + (S n g + g n)
    rw [S_add n]; omega
theorem S_mul {c : Int} {f : Nat → Int} : ∀ n : Nat, S n (fun i => c * f i) = c * S n f
  | 0 => by show (0 : Int) = c * 0; omega
  | n + 1 => by
    show S n (fun i => c * f i) + c * f n = c * (S n f + f n)
    rw [S_mul n, Int.mul_add]
theorem binom (a : Int) : ∀ n : Nat, (a + 1) ^ n = S (n + 1) fun k => (choose n k : Int) * a ^ k
  | 0 => by
    show (a + 1) ^ 0 = 0 + ((1 : Nat) : Int) * a ^ 0
    rw [Int.pow_zero, Int.pow_zero]; rfl
  | n + 1 => by
    rw [Int.pow_succ, binom a n, Int.mul_add, Int.mul_one, S_head (n + 1)]
    have e0 : ((choose (n + 1) 0 : Nat) : Int) * a ^ 0 = 1 := by
      have : choose (n + 1) 0 = 1 := by unfold choose; rfl
      rw [this, Int.pow_zero]; rfl
    rw [e0]
    have e1 : (S (n + 1) fun k => ((choose (n + 1) (k + 1) : Nat) : Int) * a ^ (k + 1)) = (S (n + 1) fun k => (choose n k : Int) * a ^ (k + 1)) + S (n + 1) fun k => (choose n (k + 1) : Int) * a ^ (k + 1) := by
      rw [← S_add]
      refine S_eq _ fun k _ => ?_
      show (((choose n k + choose n (k + 1) : Nat)) : Int) * a ^ (k + 1) = _
      rw [Int.natCast_add, Int.add_mul]
    have e2 : (S (n + 1) fun k => (choose n k : Int) * a ^ (k + 1)) = (S (n + 1) fun k => (choose n k : Int) * a ^ k) * a := by
      rw [Int.mul_comm _ a, ← S_mul]
      refine S_eq _ fun k _ => ?_
      show _ = a * ((choose n k : Int) * a ^ k)
      rw [Int.pow_succ]
      grind
    have e3 : (S (n + 1) fun k => (choose n (k + 1) : Int) * a ^ (k + 1)) + 1 = S (n + 1) fun k => (choose n k : Int) * a ^ k := by
      show (S n fun k => (choose n (k + 1) : Int) * a ^ (k + 1)) + ((choose n (n + 1) : Nat) : Int) * a ^ (n + 1) + 1 = _
      rw [choose_big n (n + 1) (by omega), S_head n]
      have : ((choose n 0 : Nat) : Int) * a ^ 0 = 1 := by
        have : choose n 0 = 1 := by cases n <;> rfl
        rw [this, Int.pow_zero]; rfl
      rw [this]
      show _ + (0 : Int) * a ^ (n + 1) + 1 = _
      omega
    rw [e1, e2]
    omega
theorem Prim.choose {p k : Nat} (P : Prim (p : Int)) (h0 : 0 < k) (h1 : k < p) : Cg (p : Int) (choose p k : Int) 0 := by
  obtain ⟨k, rfl⟩ : ∃ j, k = j + 1 := ⟨k - 1, by omega⟩
  obtain ⟨q, rfl⟩ : ∃ q, p = q + 1 := ⟨p - 1, by omega⟩
  have e := choose_abs q k
  have d : ((q + 1 : Nat) : Int) ∣ ((k + 1 : Nat) : Int) * (Dl.choose (q + 1) (k + 1) : Int) := by
    rw [← Int.natCast_mul, e, Int.natCast_mul]
    exact Int.dvd_mul_right _ _
  rcases P.euc _ _ d with z | z
  · have := Int.le_of_dvd (by omega) z
    omega
  · exact Cg.zero_iff.mpr z
theorem fermat_succ {p : Nat} (P : Prim (p : Int)) (a : Int) : Cg (p : Int) ((a + 1) ^ p) (a ^ p + 1) := by
  rw [binom]
  obtain ⟨q, rfl⟩ : ∃ q, p = q + 1 := ⟨p - 1, by have := P.two; omega⟩
  rw [S_head]
  show Cg _ (((Dl.choose (q + 1) 0 : Nat) : Int) * a ^ 0 + ((S q fun k => (Dl.choose (q + 1) (k + 1) : Int) * a ^ (k + 1)) + ((Dl.choose (q + 1) (q + 1) : Nat) : Int) * a ^ (q + 1))) _
  rw [choose_self]
  have e0 : ((Dl.choose (q + 1) 0 : Nat) : Int) * a ^ 0 = 1 := by
    have : Dl.choose (q + 1) 0 = 1 := by unfold Dl.choose; rfl
    rw [this, Int.pow_zero]; rfl
  rw [e0]
  have z : Cg ((q + 1 : Nat) : Int) (S q fun k => (Dl.choose (q + 1) (k + 1) : Int) * a ^ (k + 1)) (S q fun _ => 0) := S_cg q fun k hk => by
    have := (P.choose (k := k + 1) (by omega) (by omega)).mul (Cg.refl (a := a ^ (k + 1)))
    rw [Int.zero_mul] at this
    exact this
  have z0 : ∀ n, S n (fun _ => 0) = 0 := fun n => by
    induction n with
    | zero => rfl
    | succ n ih => show S n _ + 0 = 0; rw [ih]; rfl
  rw [z0] at z
  refine (Cg.add .refl (z.add .refl)).trans (.of_eq ?_)
  show (1 : Int) + (0 + ((1 : Nat) : Int) * a ^ (q + 1)) = _
  omega
theorem fermat_nat {p : Nat} (P : Prim (p : Int)) : ∀ n : Nat, Cg (p : Int) ((n : Int) ^ p) n
  | 0 => by
    have : ((0 : Nat) : Int) ^ p = 0 := by
      obtain ⟨q, rfl⟩ : ∃ q, p = q + 1 := ⟨p - 1, by have := P.two; omega⟩
      rw [Int.pow_succ]
      exact Int.mul_zero _
    rw [this]; exact .refl
  | n + 1 => by
    rw [Int.natCast_add]
    exact (fermat_succ P n).trans ((fermat_nat P n).add .refl)
theorem fermat {p : Nat} (P : Prim (p : Int)) (a : Int) : Cg (p : Int) (a ^ p) a := by
  have hp := P.two
  have h : a % (p : Int) = ((a % (p : Int)).toNat : Int) := (Int.toNat_of_nonneg (Int.emod_nonneg _ (by omega))).symm
  have e : Cg (p : Int) (((a % (p : Int)).toNat : Nat) : Int) a := by
    rw [← h]
    exact .mod
  exact (e.symm.pow p).trans ((fermat_nat P _).trans e)
/-- the inverse by a power -/
theorem fermat_inv {p : Int} (P : Prim p) {a : Int} (h : ¬ Cg p a 0) : Cg p (a ^ (p - 2).toNat * a) 1 := by
  have hp := P.two
  obtain ⟨n, rfl⟩ := Int.eq_ofNat_of_zero_le (show 0 ≤ p by omega)
  have e : ((n : Int) - 2).toNat + 1 + 1 = n := by omega
  have f := fermat P a
  rw [← e, Int.pow_succ, Int.pow_succ] at f
  refine P.cancel (a := a) ?_ h
  rw [Int.mul_one, Int.mul_comm a]
  rw [e] at f
  exact f
end Dl

namespace Dl
/-! ### polynomials by their coefficients -/
def pev : List Int → Int → Int
  | [], _ => 0
  | c :: cs, t => c + t * pev cs t
/-- the values of the ends -/
def syn (a : Int) : List Int → List Int
  | [] => []
  | c :: cs => pev (c :: cs) a :: syn a cs
theorem syn_len (a : Int) : ∀ cs : List Int, (syn a cs).length = cs.length
  | [] => rfl
  | c :: cs => by
    show (syn a cs).length + 1 = cs.length + 1
    rw [syn_len a cs]
theorem syn_div (a t : Int) : ∀ (c : Int) (cs : List Int), pev (c :: cs) t - pev (c :: cs) a = (t - a) * pev (syn a cs) t
  | c, [] => by
    show c + t * 0 - (c + a * 0) = (t - a) * 0
    omega
  | c, d :: ds => by
    have ih := syn_div a t d ds
    show c + t * pev (d :: ds) t - (c + a * pev (d :: ds) a) = (t - a) * (pev (d :: ds) a + t * pev (syn a ds) t)
    have e : t * ((t - a) * pev (syn a ds) t) = t * (pev (d :: ds) t - pev (d :: ds) a) := by rw [ih]
    grind
/-- all numbers of the list are 0 but for multiples of p -/
def Zer (p : Int) (cs : List Int) : Prop := ∀ c ∈ cs, Cg p c 0
theorem Zer.pev {p : Int} {cs : List Int} (h : Zer p cs) (t : Int) : Cg p (pev cs t) 0 := by
  induction cs with
  | nil => exact .refl
  | cons c cs ih =>
    have h1 := (h c List.mem_cons_self).add ((Cg.refl (a := t)).mul (ih fun x hx => h x (List.mem_cons_of_mem _ hx)))
    rw [Int.mul_zero] at h1
    exact h1
theorem Zer.of_syn {p a : Int} : ∀ {cs : List Int}, Zer p (syn a cs) → Zer p cs
  | [], _ => fun _ h => nomatch h
  | c :: cs, h => by
    have ih := Zer.of_syn (cs := cs) fun x hx => h x (List.mem_cons_of_mem _ hx)
    intro x hx
    rcases List.mem_cons.mp hx with rfl | hx
    · have h1 : Cg p (x + a * Dl.pev cs a) 0 := h _ List.mem_cons_self
      have h2 := (Cg.refl (a := a)).mul (ih.pev a)
      rw [Int.mul_zero] at h2
      have h3 := h1.sub h2
      rw [show x + a * Dl.pev cs a - a * Dl.pev cs a = x by omega] at h3
      exact h3
    · exact ih x hx
/-- as many roots as coefficients: nothing is left -/
theorem roots_zero {p : Int} (P : Prim p) : ∀ (xs cs : List Int), xs.Pairwise (fun x y => ¬ Cg p (x - y) 0) → cs.length ≤ xs.length → (∀ x ∈ xs, Cg p (pev cs x) 0) → Zer p cs
  | _, [], _, _, _ => fun _ h => nomatch h
  | [], c :: cs, _, h, _ => by simp at h
  | x :: xs, c :: cs, hd, hl, hr => by
    rw [List.pairwise_cons] at hd
    have hx := hr x List.mem_cons_self
    have hs : Zer p (syn x cs) := roots_zero P xs (syn x cs) hd.2 (by rw [syn_len]; simpa using hl) fun y hy => by
      have h1 := (hr y (List.mem_cons_of_mem _ hy)).sub hx
      rw [syn_div] at h1
      rcases P.mul_zero h1 with z | z
      · have z2 := z.neg
        rw [show -(y - x) = x - y by omega] at z2
        exact absurd z2 (hd.1 y hy)
      · exact z
    have hz := Zer.of_syn hs
    intro y hy
    rcases List.mem_cons.mp hy with rfl | hy
    · have h2 := (Cg.refl (a := x)).mul (hz.pev x)
      rw [Int.mul_zero] at h2
      have h1 : Cg p (y + x * pev cs x) 0 := hx
      have h3 := h1.sub h2
      rw [show y + x * pev cs x - x * pev cs x = y by omega] at h3
      exact h3
    · exact hz y hy
def padd : List Int → List Int → List Int
  | [], ds => ds
  | cs, [] => cs
  | c :: cs, d :: ds => (c + d) :: padd cs ds
theorem padd_pev (t : Int) : ∀ cs ds : List Int, pev (padd cs ds) t = pev cs t + pev ds t
  | [], ds => by
    show pev ds t = 0 + pev ds t
    omega
  | c :: cs, [] => by
    show pev (c :: cs) t = pev (c :: cs) t + 0
    omega
  | c :: cs, d :: ds => by
    show c + d + t * pev (padd cs ds) t = c + t * pev cs t + (d + t * pev ds t)
    rw [padd_pev t cs ds, Int.mul_add]; omega
theorem padd_len : ∀ cs ds : List Int, (padd cs ds).length = max cs.length ds.length
  | [], ds => by simp [padd]
  | c :: cs, [] => by simp [padd]
  | c :: cs, d :: ds => by
    show (padd cs ds).length + 1 = max (cs.length + 1) (ds.length + 1)
    rw [padd_len cs ds]; omega
theorem pmul_pev (a t : Int) : ∀ cs : List Int, pev (cs.map fun c => a * c) t = a * pev cs t
  | [] => by show (0 : Int) = a * 0; omega
  | c :: cs => by
    show a * c + t * pev (cs.map fun c => a * c) t = a * (c + t * pev cs t)
    rw [pmul_pev a t cs, Int.mul_add, ← Int.mul_assoc, ← Int.mul_assoc, Int.mul_comm t a]
/-- f is a polynomial of degree at most n, but for multiples of p -/
def Pol (p : Int) (n : Nat) (f : Int → Int) : Prop := ∃ cs : List Int, cs.length ≤ n + 1 ∧ ∀ t, Cg p (f t) (pev cs t)
section
variable {p : Int} {n m : Nat} {f g : Int → Int}
theorem Pol.const (c : Int) : Pol p n (fun _ => c) := ⟨[c], by simp, fun t => .of_eq (by show c = c + t * 0; omega)⟩
theorem Pol.mono (h : Pol p n f) (l : n ≤ m) : Pol p m f := by
  obtain ⟨cs, h1, h2⟩ := h
  exact ⟨cs, by omega, h2⟩
theorem Pol.congr (h : Pol p n f) (e : ∀ t, Cg p (g t) (f t)) : Pol p n g := by
  obtain ⟨cs, h1, h2⟩ := h
  exact ⟨cs, h1, fun t => (e t).trans (h2 t)⟩
theorem Pol.add (h : Pol p n f) (k : Pol p n g) : Pol p n fun t => f t + g t := by
  obtain ⟨cs, h1, h2⟩ := h
  obtain ⟨ds, k1, k2⟩ := k
  exact ⟨padd cs ds, by rw [padd_len]; omega, fun t => by rw [padd_pev]; exact (h2 t).add (k2 t)⟩
theorem Pol.smul (a : Int) (h : Pol p n f) : Pol p n fun t => a * f t := by
  obtain ⟨cs, h1, h2⟩ := h
  exact ⟨cs.map fun c => a * c, by rw [List.length_map]; exact h1, fun t => by rw [pmul_pev]; exact Cg.mul .refl (h2 t)⟩
theorem Pol.sub (h : Pol p n f) (k : Pol p n g) : Pol p n fun t => f t - g t :=
  (h.add (k.smul (-1))).congr fun t => .of_eq (by omega)
theorem Pol.tmul (h : Pol p n f) : Pol p (n + 1) fun t => t * f t := by
  obtain ⟨cs, h1, h2⟩ := h
  exact ⟨0 :: cs, by simpa using h1, fun t => (Cg.mul .refl (h2 t)).trans (.of_eq (by show t * pev cs t = 0 + t * pev cs t; omega))⟩
theorem Pol.lin (a b : Int) (h : Pol p n f) : Pol p (n + 1) fun t => (a + b * t) * f t :=
  ((h.smul a).mono (Nat.le_succ n) |>.add (h.tmul.smul b)).congr fun t => .of_eq (by rw [Int.add_mul, Int.mul_assoc])
theorem Pol.sum {F : Nat → Int → Int} : ∀ k : Nat, (∀ i < k, Pol p n (F i)) → Pol p n fun t => S k fun i => F i t
  | 0, _ => .const 0
  | k + 1, h => (Pol.sum k fun i hi => h i (by omega)).add (h k (by omega))
theorem Pol.pev (cs : List Int) (h : cs.length ≤ n + 1) : Pol p n (Dl.pev cs) := ⟨cs, h, fun _ => .refl⟩
/-- equal at n + 1 places: equal everywhere -/
theorem Pol.ext (P : Prim p) (h : Pol p n f) (k : Pol p n g) (xs : List Int) (hd : xs.Pairwise (fun x y => ¬ Cg p (x - y) 0)) (hl : n + 1 ≤ xs.length) (e : ∀ x ∈ xs, Cg p (f x) (g x)) (t : Int) : Cg p (f t) (g t) := by
  obtain ⟨cs, h1, h2⟩ := h.sub k
  have z := roots_zero P xs cs hd (by omega) fun x hx => by
    have := (e x hx).sub (Cg.refl (a := g x))
    rw [Int.sub_self] at this
    exact (h2 x).symm.trans this
  have w := ((h2 t).trans (z.pev t)).add (Cg.refl (a := g t))
  rw [show f t - g t + g t = f t by omega, Int.zero_add] at w
  exact w
end
/-- 0, 1, …, n - 1, told apart by p -/
theorem nodes {p : Int} {n : Nat} (h : (n : Int) ≤ p) : ((List.range n).map fun i : Nat => (i : Int)).Pairwise (fun x y => ¬ Cg p (x - y) 0) := by
  rw [List.pairwise_map]
  refine List.Pairwise.imp_of_mem (R := fun a b => a < b) ?_ (List.pairwise_lt_range)
  intro a b ha hb hab
  have ha := List.mem_range.mp ha
  have hb := List.mem_range.mp hb
  exact near_ne (by omega) (by omega) (by omega)
theorem Pol.extN {p : Int} {n : Nat} {f g : Int → Int} (P : Prim p) (hn : ((n + 1 : Nat) : Int) ≤ p) (h : Pol p n f) (k : Pol p n g) (e : ∀ i : Nat, i ≤ n → Cg p (f i) (g i)) (t : Int) : Cg p (f t) (g t) :=
  h.ext P k _ (nodes hn) (by simp) (fun x hx => by
    obtain ⟨i, hi, rfl⟩ := List.mem_map.mp hx
    exact e i (by have := List.mem_range.mp hi; omega)) t
/-! ### Lagrange -/
/-- the product of t - j over all j < n but k -/
def above (k : Nat) (t : Int) : Nat → Int
  | 0 => 1
  | j + 1 => if j = k then above k t j else above k t j * (t - (j : Nat))
theorem above_pol {p : Int} (k : Nat) : ∀ n : Nat, Pol p n (fun t => above k t n) ∧ (k < n → Pol p (n - 1) (fun t => above k t n))
  | 0 => ⟨.const 1, fun h => absurd h (Nat.not_lt_zero _)⟩
  | n + 1 => by
    obtain ⟨h1, h2⟩ := above_pol (p := p) k n
    by_cases hk : n = k
    · have e : ∀ t, above k t (n + 1) = above k t n := fun t => if_pos hk
      refine ⟨(h1.mono (Nat.le_succ n)).congr fun t => .of_eq (e t), fun _ => h1.congr fun t => .of_eq (e t)⟩
    · have e : ∀ t, above k t (n + 1) = above k t n * (t - (n : Nat)) := fun t => if_neg hk
      refine ⟨(h1.lin (-(n : Nat)) 1).congr fun t => .of_eq (by rw [e, Int.mul_comm]; congr 1; omega), fun hkn => ?_⟩
      have h3 := (h2 (by omega)).lin (-(n : Nat)) 1
      rw [show n - 1 + 1 = n + 1 - 1 by omega] at h3
      exact h3.congr fun t => .of_eq (by rw [e, Int.mul_comm]; congr 1; omega)
theorem above_zero {k i : Nat} (hik : i ≠ k) : ∀ n : Nat, i < n → above k (i : Nat) n = 0
  | n + 1, h => by
    unfold above
    by_cases hk : n = k
    · rw [if_pos hk]
      exact above_zero hik n (by omega)
    · rw [if_neg hk]
      by_cases hi : i = n
      · rw [hi, Int.sub_self, Int.mul_zero]
      · rw [above_zero hik n (by omega), Int.zero_mul]
theorem above_ne {p : Int} (P : Prim p) {k : Nat} : ∀ n : Nat, ((n : Nat) : Int) ≤ p → (k : Int) < p → ¬ Cg p (above k (k : Nat) n) 0
  | 0, _, _ => P.one_ne
  | n + 1, h, hk => by
    unfold above
    by_cases e : n = k
    · rw [if_pos e]
      exact above_ne P n (by omega) hk
    · rw [if_neg e]
      intro z
      rcases P.mul_zero z with z | z
      · exact above_ne P n (by omega) hk z
      · exact near_ne (by omega) (by omega) (by omega) z
/-- the polynomial through the values at 0, …, n -/
theorem lagrange {p : Int} (P : Prim p) {n : Nat} (hn : ((n + 1 : Nat) : Int) ≤ p) {f : Int → Int} (h : Pol p n f) (I : Nat → Int) (hI : ∀ k ≤ n, Cg p (above k (k : Nat) (n + 1) * I k) 1) (t : Int) :
    Cg p (S (n + 1) fun k => f (k : Nat) * (above k t (n + 1) * I k)) (f t) := by
  have hg : Pol p n fun t => S (n + 1) fun k => f (k : Nat) * (above k t (n + 1) * I k) := Pol.sum (n + 1) fun k hk =>
    (((above_pol (p := p) k (n + 1)).2 hk).smul (f (k : Nat) * I k)).congr fun t => .of_eq (by rw [Int.mul_assoc, Int.mul_comm (I k)])
  refine Pol.extN P hn hg h (fun i hi => ?_) t
  have key : ∀ m : Nat, m ≤ n + 1 → Cg p (S m fun k => f (k : Nat) * (above k (i : Nat) (n + 1) * I k)) (if i < m then f (i : Nat) else 0) := by
    intro m
    induction m with
    | zero => intro _; exact .refl
    | succ m ih =>
      intro hm
      have ih := ih (by omega)
      show Cg p (S m _ + f (m : Nat) * (above m (i : Nat) (n + 1) * I m)) _
      by_cases e : i = m
      · subst e
        rw [if_neg (by omega)] at ih
        rw [if_pos (by omega)]
        have := ih.add ((Cg.refl (a := f (i : Nat))).mul (hI i (by omega)))
        rw [Int.zero_add, Int.mul_one] at this
        exact this
      · rw [above_zero e (n + 1) (by omega), Int.zero_mul, Int.mul_zero, Int.add_zero]
        by_cases hl : i < m
        · rw [if_pos hl] at ih
          rw [if_pos (by omega)]
          exact ih
        · rw [if_neg hl] at ih
          rw [if_neg (by omega)]
          exact ih
  have := key (n + 1) (Nat.le_refl _)
  rw [if_pos (by omega)] at this
  exact this
/-! ### more of reading -/
open PySem L2 in
/-- a comprehension with a condition: c tells which are taken, f what is laid -/
theorem lcW_fil {α β : Type} {inj : α → D} {out : β → D} {g : DG} {tt : DT} {te : DE} {ρ : Dl.Env} {Φ : D → MM → Prop} (f : α → β) (c : α → Bool) (m : MM) (xs : List α)
    (hg : ∀ x ∈ xs, ∀ (m' : MM) (Θ : D → MM → Prop) (Υ : Prop), m'.s = m.s → (c x = true → Θ (out (f x)) m') → (c x = false → Υ) → g (inj x) ρ m' (fun ρ1 m1 => m1 = m' ∧ tt ρ1 m' (fun b m2 => m2 = m' ∧ if b = true then te ρ1 m' Θ XF else Υ) XF)) (hc : ∀ y, clD m.M.length (out y) = true) (hl : xs.length ≤ LIM) (h : Φ (.lst (((xs.filter c).map f).map out)) m) :
    lcW g tt te ρ Φ (xs.map inj) [] m := by
  have key : ∀ (ys : List α), (∀ x ∈ ys, x ∈ xs) → ∀ (acc : List D), acc.length + ys.length ≤ LIM → Φ (.lst (acc ++ ((ys.filter c).map f).map out)) m → lcW g tt te ρ Φ (ys.map inj) acc m := by
    intro ys
    induction ys with
    | nil =>
      intro _ acc _ h
      rw [List.filter_nil, List.map_nil, List.map_nil, List.append_nil] at h
      exact h
    | cons x ys ih =>
      intro hx acc hl h
      rw [List.length_cons] at hl
      refine hg x (hx x List.mem_cons_self) (m.push (.lst acc)) (fun y m3 => m3 = m.push (.lst acc) ∧ acc.length < LIM ∧ clD m.M.length y = true ∧ lcW g tt te ρ Φ (ys.map inj) (acc ++ [y]) m) _ rfl (fun e => ?_) fun e => ?_
      · rw [List.filter_cons, if_pos e, List.map_cons, List.map_cons] at h
        exact ⟨rfl, by omega, hc _, ih (fun y hy => hx y (List.mem_cons_of_mem _ hy)) _ (by rw [List.length_append, List.length_singleton]; omega) (by rw [List.append_assoc]; exact h)⟩
      · rw [List.filter_cons, if_neg (by rw [e]; decide)] at h
        exact ih (fun y hy => hx y (List.mem_cons_of_mem _ hy)) _ (by omega) h
  exact key xs (fun x h => h) [] (by rw [List.length_nil]; omega) (by rw [List.nil_append]; exact h)
theorem sum_S {f : Nat → Int} : ∀ n : Nat, ((List.range n).map f).sum = S n f
  | 0 => rfl
  | n + 1 => by
    rw [List.range_succ, List.map_append, List.sum_append, sum_S n]
    show _ + (f n + 0) = _ + f n
    omega
theorem All2.all {α : Type} {P : Int → Prop} {xs : List α} {ys : List Int} (h : All2 (fun _ y => P y) xs ys) : ∀ y ∈ ys, P y := by
  induction h with
  | nil => intro y hy; cases hy
  | cons h _ ih =>
    intro y hy
    rcases List.mem_cons.mp hy with rfl | hy
    · exact h
    · exact ih y hy
end Dl

namespace Dl
open PySem L2
/-! ### a list over and over -/
def oRep : DO := fun x y m Φ => match x, y with
  | .lst ds, .int k => ds.length * k.toNat ≤ LIM ∧ -(2 ^ 63) ≤ k ∧ k < 2 ^ 63 ∧ Φ (.lst (List.replicate k.toNat ds).flatten) m
  | _, _ => False
theorem repAll_many {K : PySem.W.Frag} {w : Wd} {ds : List D} {vs : List V} (r : RepAll K w ds vs) : ∀ k : Nat, RepAll K w (List.replicate k ds).flatten (List.replicate k vs).flatten
  | 0 => rfl
  | k + 1 => by
    rw [List.replicate_succ, List.replicate_succ, List.flatten_cons, List.flatten_cons]
    exact r.append (repAll_many r k)
theorem opl_rep {K : PySem.W.Frag} : OpL K rRep oRep := fun w m H x y u v Q Φ h r1 r2 vl q => by
  unfold oRep at q
  split at q
  · obtain ⟨a, xs, rfl, ha, ra⟩ := r1
    cases (show v = V.int _ from r2)
    obtain ⟨z, k1, k2, q⟩ := q
    refine ⟨a, _, xs, rfl, rfl, h.ext _ _ ha, k1, k2, lim_sz (by rw [ra.length]; exact z), fun p hp => ?_⟩
    exact vl _ m _ _ _ (Wd.le_put (h.nof hp)) (h.put hp) (rep_put_lst h hp (repAll_many ra _)) q
  · exact q.elim
end Dl

namespace Dl
open PySem L2
/-! ### the drawing state of the other kind: a row of numbers, the first a place in it -/
section
variable {K : PySem.W.Frag} {w : Wd} {m : MM} {H : Hp} {A c : Addr}
end
section
variable {P : Program} {w : World} {K : PySem.W.Frag} {mg : Str → Option Value} {base : Heap} {x : Str} {lv : Nat} {ps : List Str}
end
local macro_rules | `(tactic| walk_at "dl") => `(tactic| try simp only [dSeq, dSet, dOp, dUn, dVar, dC, dCB, dCons, dNil, dRet, dRetN, dIf, dB, dAnd, dOr, dNot, dDrop, dNext, dMethL, dSetIx, dAndV, dOrV, dNotV, dBlV, dIfE, dLst, dTup, dLstM, dCall, dChain, dAsg, dgName, dgTup, bindD, asT, dFor, diList, diRng1, diRng2, diEnumerate, diZip, diReversed, dLc, dLcM, dYes, wipeD, dAug, dSl, dpN, dpS,
  oI, oI0, oB0, oAdd, oNeg, oEq, oNe, oIx, oIsN, oNotN, isNon, oShl, oApp, oPop, oPopAt, cLen, cInt, cAbs, cSum, cMax2, cMin2, cList, cIsi, tyD, asL, asF, asK, moL_lst, ModC, DivC,
  List.getElem?_cons_zero, List.getElem?_cons_succ, List.set_cons_zero, List.set_cons_succ, List.getElem?_nil, List.length_cons, List.length_nil, List.length_map, Option.map_some, Option.bind_some, Option.isSome_some, if_true, true_and, and_true, MM.push])
end Dl

namespace Dl
open PySem L2
/-! ### an own list that will not change any more -/
/-- from here on slot i's list is like a written one -/
def dFrz (i : Nat) (a : DS) : DS := fun N Ψ ρ m => match ρ[i]? with
  | some (some (.hnd k)) => match moL m.M[k]? with
    | some ds => a N Ψ (ρ.set i (some (.lst ds))) ⟨m.M.set k .dead, m.s⟩
    | none => False
  | _ => False
theorem moL_some {o : Option MO} {ds : List D} (h : moL o = some ds) : o = some (.lst ds) := by
  cases o with
  | none => cases h
  | some o =>
    cases o with
    | lst es =>
      have h : some es = some ds := h
      cases h; rfl
    | ins C fs => cases h
    | dead => cases h
theorem js_frz {X : Cx} {E : WX} {st : Stmt} {W : DS} (i : Nat) (h : JS X E st W) : JS X E st (dFrz i W) := PS.imp h fun D σ H ⟨w, ρ, m, Ψ, N, a, n, q⟩ => by
  unfold dFrz at q
  split at q
  · rename_i k e
    split at q
    · rename_i ds em
      obtain ⟨v, e1, A, rfl, eA⟩ := a.s.2 i _ e
      obtain ⟨xs, fa, hx, rr, hf⟩ := a.h.frz eA (moL_some em)
      have l : w.le (w.put A (.lst xs)) := Wd.le_put fa
      have sl : Slots X.K (w.put A (.lst xs)) (σ.set i (some (.ref A))) (ρ.set i (some (.lst ds))) := (a.s.mono l).set i ⟨A, xs, rfl, upd_same, RepAll.mono l _ _ rr⟩
      have es : σ.set i (some (.ref A)) = σ := by
        apply List.ext_getElem?
        intro j
        by_cases hj : i = j
        · subst hj
          rw [List.getElem?_set_self (List.getElem?_eq_some_iff.mp e1).1, e1]
        · rw [List.getElem?_set_ne hj]
      rw [es] at sl
      exact ⟨_, _, _, Ψ, N, ⟨hf, sl, a.x.mono l⟩, n.mono l, q⟩
    · exact q.elim
  · exact q.elim
end Dl

namespace Dl
open PySem L2 PyProof.Rows
/-! ### errors of own classes: made and raised -/
/-- what the written part must say of a class B whose __init__ is ValueError's, called by name -/
structure InitC (K : PySem.W.Frag) (B : Addr) : Prop where
  rd : PySem.W.readsIn K B (.type "type") = true
  ga : PySem.W.specialIn K (.ref B) "__getattribute__" = some (some (.builtin "type.__getattribute__"))
  at_ : PySem.W.findCls K (.ref B) (.type "type") "__init__" = some (.val (.builtin "ValueError.__init__"))
section
variable {X : Cx} {B : Addr} {x : Str} {o e : Expr} {es : List Expr} {ta : TA} {p1 p2 pos : Pos}
theorem pe_binit {pl : Sem Bool} (hg : Gl X x) (hm : X.mg x = some (.ref B)) (T : InitC X.K B) (ha : PA X (e :: es) ta) (hdb : (x == ("__debug__" : Str)) = false := by decide)
    (hc : eval (.Call (.Attribute (.Name x p1) "__init__" p2) (e :: es) [] pos) X.env = (do
      let ov ← eval (.Name x p1) X.env
      standAt p2.atName
      let (f, first) ← holding [ov] (getMethod ov "__init__" pl)
      callWith pos f first (backTo pos (starEach (e :: es) X.env)) (backToKw pos (keywordEach [] X.env))) := by rfl)
    (he : starEach (e :: es) X.env = (false, eval e X.env) :: starEach es X.env := by rfl) (hpl : (backTo pos (starEach es X.env)).any (·.1) = false := by rfl) :
    PE X (.Call (.Attribute (.Name x p1) "__init__" p2) (e :: es) [] pos) (tVeI X.K ta) := by
  constructor
  intro pins s σ H Q I told
  apply PySem.W.methodCall_KW _ hc
  apply ld_glob I hg hm _ hdb
  apply PySem.W.method_cls I.kIn T.ga
  apply PySem.W.cls_value I.kIn T.rd T.at_ (by decide +kernel)
  refine PyProof.Rows.callWith_method1 (wpAny_mono (ha.run pos pins _ σ H _ (I.tok _) told) ?_ fun _ _ z => z) he hpl
  rintro us s1 ⟨vs, H1, I1, rs, a, C, ws, rfl, many, okC, there, go⟩
  match us, rs with
  | u :: ur, .cons ra rr =>
    cases ra
    exact oinit_ok okC I1 there (by rw [← Paired.length rr, sizeLine_eq]; omega) fun s' J => ⟨.non, H1, J, rfl, go⟩
end
/-- the promise of an __init__ that keeps its arguments in the fields fs -/
def spErr (C : Addr) (fs : List Str) : Sp := fun vs H Q _ => ∃ (a : Addr) (ws : List V), vs = .ref a :: ws ∧ ws.length = fs.length ∧ H a = some (exo a C none) ∧
  ∀ dx, H dx = none → dx ≠ a → Q .non (upd (upd H dx (exd dx (fs.zip ws).reverse)) a (exo a C (some dx)))
section
variable {P : Program} {w : World} {K : PySem.W.Frag} {mg : Str → Option Value} {base : Heap}
/-- def __init__(self, y): B.__init__(self, 'text'); self.f = y -/
theorem err_init1 {qual y f t : Str} {st st1 st2 : Stmt} {fI : Addr} {fd : FuncData} {C : Addr} (F : Fun K "__init__" qual st fI fd) (S : FnScope ["self", y] ["self", y] (defScope st)) (hb : defBody st = [st1, st2])
    (g1 : ∀ (cdv : Value) (A : Around) (outer : List PySem.Env) (s : Shared) (H : Hp) (E : XK), PS (cxOf (L2.CX P w) P w K mg base ["self", y] qual (defScope st) fI cdv A outer s H E) st1 (tDrop (tVeI K (tCons (tVar 0) (tCons (tC (.str t)) tNil)))))
    (g2 : ∀ (cdv : Value) (A : Around) (outer : List PySem.Env) (s : Shared) (H : Hp) (E : XK), PS (cxOf (L2.CX P w) P w K mg base ["self", y] qual (defScope st) fI cdv A outer s H E) st2 (tOst K f (tVar 0) (tVar 1)))
    (T2 : OexC K C) (hno : PySem.W.findIn K (.ref C) f = some none) : FnOk P w K mg base (L2.CX P w) 1 fI fd ["self", y] (spErr C [f]) := by
  refine F.okX S (fun vs H Q E ⟨a, ws, e, l, _⟩ => by rw [e, List.length_cons, l]; rfl) fun cdv A outer s H vs Q E hr ⟨a, ws, e, l, ha, q⟩ => ?_
  obtain ⟨v, rfl⟩ : ∃ v, ws = [v] := by
    match ws, l with
    | [v], _ => exact ⟨v, rfl⟩
  rw [hb]
  refine ⟨_, pss_cons (g1 cdv A outer s H E) (pss_one (g2 cdv A outer s H E)), ?_⟩
  subst e
  refine ⟨_, rfl, ⟨a, C, [.str t], rfl, by show 1 ≤ 1000; decide, T2, ha, ?_⟩⟩
  exact ⟨_, rfl, _, rfl, a, C, rfl, T2, hno, .inl ⟨ha, fun dx n ne => q dx n ne⟩⟩
/-- an own error class that can be made -/
structure ErrOk (P : Program) (w : World) (K : PySem.W.Frag) (mg : Str → Option Value) (base : Heap) (c : String) (fs : List String) : Prop where
  mgc : mg (PySem.Str.ofString c) = some (.ref (kcl K c))
  oex : OexC K (kcl K c)
  len : fs.length ≤ 100
  ini : ∃ (fI : Addr) (fd : FuncData) (ps : List Str), PySem.W.findIn K (.ref (kcl K c)) "__init__" = some (some (.ref fI)) ∧ PySem.W.typeIn K (.ref fI) = some (.type "function") ∧ BA fd ps ∧
    FnOk P w K mg base (L2.CX P w) 1 fI fd ps (spErr (kcl K c) (fs.map PySem.Str.ofString))
end
/-- raise C(e, ..): what follows is the wish of the error -/
def dRaise (c : String) (fs : List String) (r : DA) : DS := fun _ Ψ ρ m => r ρ m (fun ds m1 => ds.length = fs.length ∧ Ψ ρ c (fs.zip ds).reverse m1) (Ψ ρ)
theorem RepF.append {K : PySem.W.Frag} {w : Wd} : ∀ {ds es : List (String × D)} {vs us : List (Str × V)}, RepF K w ds vs → RepF K w es us → RepF K w (ds ++ es) (vs ++ us)
  | [], _, _, _, h, g => by
    have q : _ = [] := h
    subst q; exact g
  | (f, d) :: ds, _, _, _, h, g => by
    obtain ⟨v, r, rfl, a, b⟩ := h
    exact ⟨v, _, rfl, a, RepF.append b g⟩
theorem RepF.reverse {K : PySem.W.Frag} {w : Wd} {ds : List (String × D)} {vs : List (Str × V)} (h : RepF K w ds vs) : RepF K w ds.reverse vs.reverse := by
  induction ds generalizing vs with
  | nil =>
    have q : vs = [] := h
    subst q; exact rfl
  | cons d ds ih =>
    obtain ⟨f, d⟩ := d
    obtain ⟨v, r, rfl, a, b⟩ := h
    rw [List.reverse_cons, List.reverse_cons]
    exact RepF.append (ih b) ⟨v, [], rfl, a, rfl⟩
theorem repF_zip {K : PySem.W.Frag} {w : Wd} : ∀ {fs : List String} {ds : List D} {vs : List V}, RepAll K w ds vs → RepF K w (fs.zip ds) ((fs.map PySem.Str.ofString).zip vs)
  | [], _, _, _ => rfl
  | f :: fs, [], vs, r => by
    have e : vs = [] := r
    subst e; exact rfl
  | f :: fs, d :: ds, vs, r => by
    obtain ⟨v, r', rfl, a, b⟩ := r
    exact ⟨v, _, rfl, a, repF_zip b⟩
section
variable {X : Cx} {E : WX} {c : String} {fs : List String} {e : Expr} {es : List Expr} {Ws : DA} {p cpos pos : Pos}
theorem js_raise (hc : X.calm = true) (tk : Takes X E) (G : ErrOk X.prog X.w X.K X.mg X.base c fs) (hg : Gl X (PySem.Str.ofString c)) (hr : Room 2 X.A) (ha : JA X E (e :: es) Ws)
    (hdb : (PySem.Str.ofString c == ("__debug__" : Str)) = false := by decide) (he : starEach (e :: es) X.env = (false, eval e X.env) :: starEach es X.env := by rfl) (hpl : (backTo cpos (starEach es X.env)).any (·.1) = false := by rfl) :
    JS X E (.Raise (some (.Call (.Name (PySem.Str.ofString c) p) (e :: es) [] cpos)) none pos) (dRaise c fs Ws) := by
  obtain ⟨hm, T, hlen, fI, fd, ps, iC, tI, b, F1⟩ := G
  refine PS.imp (ps_raise hc tk (pmk_oex T iC tI F1 hr (Binds.all b) .nil passL hg hm ha hdb he hpl)) fun D σ H ⟨w, ρ, m, Ψ, N, a, n, q⟩ => ?_
  refine ⟨w, ρ, m, Ψ ρ, _, a.at, ?_, q⟩
  intro ds m1 w1 H1 vs l1 h1 r1 ⟨hl, q1⟩
  have hvl : vs.length = fs.length := r1.length.trans hl
  refine ⟨by show vs.length ≤ 1000; omega, fun b hb0 => ⟨b, vs, by rw [List.append_nil], by rw [List.length_map]; exact hvl, upd_same, fun dx hdx hne => ⟨rfl, dx, ((fs.map PySem.Str.ofString).zip vs).reverse, upd_same, ?_, ?_, ?_⟩⟩⟩
  · rw [upd_ne hne, upd_same]
  · rw [upd_ne hne] at hdx
    exact hdx
  · have hd1 : H1 dx = none := by rw [upd_ne hne] at hdx; exact hdx
    have eh : upd (del (upd (upd (upd H1 b (exo b (kcl X.K c) none)) dx (exd dx ((fs.map PySem.Str.ofString).zip vs).reverse)) b (exo b (kcl X.K c) (some dx))) b) dx (.xd ((fs.map PySem.Str.ofString).zip vs).reverse) = upd H1 dx (.xd ((fs.map PySem.Str.ofString).zip vs).reverse) := by
      funext z
      by_cases z1 : z = dx
      · rw [z1, upd_same, upd_same]
      · rw [upd_ne z1, upd_ne z1]
        by_cases z2 : z = b
        · rw [z2, del_same, hb0]
        · rw [del_ne z2, upd_ne z2, upd_ne z1, upd_ne z2]
    rw [eh]
    have lw : w1.le (w1.put dx (.xd ((fs.map PySem.Str.ofString).zip vs).reverse)) := Wd.le_put (h1.nof hd1)
    exact a.x ρ σ w (.refl w) a.s c (fs.zip ds).reverse m1 _ _ dx _ (l1.trans lw) (h1.put hd1) upd_same (RepF.reverse (repF_zip (RepAll.mono lw _ _ r1))) q1
end

/-! ### try .. except B as n -/
/-- L tells of each class whether the clause takes it -/
def dTryAs (i : Nat) (L : List (String × Bool)) (body : DS) (su : Addr → Addr → String → DS) : DS := fun N Ψ ρ m =>
  body N (fun ρ' c fs m' => match L.lookup c with
    | some true => ∀ a d, su a d c { nx := fun ρ2 m2 => N.nx (ρ2.set i none) m2, rt := N.rt, bk := fun ρ2 m2 => N.bk (ρ2.set i none) m2, ct := fun ρ2 m2 => N.ct (ρ2.set i none) m2 } (fun _ => XF) (ρ'.set i (some (.exc a d c fs))) m'
    | some false => Ψ ρ' c fs m'
    | none => False) ρ m
section
variable {X : Cx} {E : WX} {B : String} {L : List (String × Bool)} {n : Str} {body suite : List Stmt} {b₀ : Stmt} {np pos pos' : Pos} {t : DS} {su : Addr → Addr → String → DS}
end
/-! in the suite -/
/-- e.f -/
def dXf (a d : Addr) (f : String) (o : DE) : DE := fun ρ m Φ Ψ => o ρ m (fun x m1 => match x with
  | .exc a' d' _ fs => a' = a ∧ d' = d ∧ ∃ v, fs.lookup f = some v ∧ Φ v m1
  | _ => False) Ψ
section
variable {X : Cx} {a d : Addr} {oe : Obj} {c : String} {pn : List (Addr × Obj)} {o : Expr} {W : DE} {f : String} {pos : Pos}
/-- isinstance(e, B) of the caught error -/
def dIsE (a d : Addr) (L : List (String × Bool)) (B : String) (c : String) (o : DE) : DE := fun ρ m Φ Ψ => o ρ m (fun x m1 => match x with
  | .exc a' d' _ _ => a' = a ∧ d' = d ∧ ∃ b, L.lookup c = some b ∧ Φ (.bl b) m1
  | _ => False) Ψ
end

/-! ### what the top must say of the classes -/
def Hnos (K : PySem.W.Frag) (C : Addr) (fs : List String) : Prop := ∀ f ∈ fs, PySem.W.findIn K (.ref C) (PySem.Str.ofString f) = some none
structure ErrT (K : PySem.W.Frag) (mg : Str → Option Value) (c : String) (q : Str) (st : Stmt) (ps : List Str) (fs : List String) : Prop where
  mgc : mg (PySem.Str.ofString c) = some (.ref (kcl K c))
  oex : OexC K (kcl K c)
  hno : Hnos K (kcl K c) fs
  ini : ∃ (fI : Addr) (fd : FuncData), PySem.W.findIn K (.ref (kcl K c)) "__init__" = some (some (.ref fI)) ∧ PySem.W.typeIn K (.ref fI) = some (.type "function") ∧ Fun K "__init__" q st fI fd ∧ BA fd ps
theorem errT_mk {K : PySem.W.Frag} {h : Heap} {mg : Str → Option Value} {c : String} {q : Str} {st : Stmt} {ps : List Str} {fs : List String} {C fI : Addr} {od an : Option Addr} {sl : Array (Option Value)} {oc kV dc pm cd ct : Value}
    {nm qq N bs bm sn sub ab col dd k0 k1 k2 k3 k5} (X : K.In h) (G : h.Ns mainGlobals mg)
    (a : PySem.W.nsIn K mainGlobals (PySem.Str.ofString c) = some (some (.ref C)))
    (c1 : K.lookup C = some (excClassObj nm qq C N bs bm true sn sub ab col dd k0 k1 k2 k3 k5 "ValueError.__new__")) (c2 : PySem.HandSPX.refsVE bm = true)
    (c3 : PySem.W.findIn K (.ref C) "__setattr__" = some (some (.builtin "object.__setattr__"))) (c4 : PySem.W.subIn K (.ref C) (.type "BaseException") = some true)
    (c5 : PySem.W.typeIn K (.ref C) = some (.type "type")) (c6 : PySem.W.keepIn K (.ref C) = true) (hno : Hnos K C fs)
    (i1 : PySem.W.findIn K (.ref C) "__init__" = some (some (.ref fI))) (i2 : PySem.W.typeIn K (.ref fI) = some (.type "function"))
    (l : K.lookup fI = some ⟨oc, od, .func (PySem.W.fnOf "__init__" q (defArgs st) (defBody st) (defScope st) .none kV dc pm an cd ct), sl⟩) (cc : PySem.W.codeIn K cd q = true) (k : PySem.W.keepIn K (.ref fI) = true)
    (b : ∀ (kV doc pm : Value) (an : Option Addr) (cdv ct : Value) (us : List Value), us.length = ps.length → bindArgs (PySem.W.fnOf "__init__" q (defArgs st) (defBody st) (defScope st) .none kV doc pm an cdv ct) ⟨us, []⟩ = pure (ps.zip us)) : ErrT K mg c q st ps fs := by
  have e := kcl_of a
  refine ⟨?_, ?_, ?_, fI, _, ?_, i2, fun_mk l cc k, b kV dc pm an cd ct⟩
  · rw [e]; exact PySem.W.mg_of X G a
  · rw [e]; exact ⟨⟨nm, qq, N, bs, bm, sn, sub, ab, col, dd, k0, k1, k2, k3, k5, c1, c2⟩, c3, c4, c5, c6⟩
  · rw [e]; exact hno
  · rw [e]; exact i1
structure InitB (K : PySem.W.Frag) (mg : Str → Option Value) (b : String) : Prop where
  mgb : mg (PySem.Str.ofString b) = some (.ref (kcl K b))
  ini : InitC K (kcl K b)
theorem initB_mk {K : PySem.W.Frag} {h : Heap} {mg : Str → Option Value} {c : String} {C : Addr} (X : K.In h) (G : h.Ns mainGlobals mg) (a : PySem.W.nsIn K mainGlobals (PySem.Str.ofString c) = some (some (.ref C)))
    (rd : PySem.W.readsIn K C (.type "type") = true) (ga : PySem.W.specialIn K (.ref C) "__getattribute__" = some (some (.builtin "type.__getattribute__"))) (at_ : PySem.W.findCls K (.ref C) (.type "type") "__init__" = some (.val (.builtin "ValueError.__init__"))) : InitB K mg c := by
  have e := kcl_of a
  refine ⟨?_, ?_⟩
  · rw [e]; exact PySem.W.mg_of X G a
  · rw [e]; exact ⟨rd, ga, at_⟩
theorem je_globE {X : Cx} {E : WX} {x : Str} {i : Int} {pos : Pos} (hg : Gl X x) (hm : ∃ t, X.mg x = some (.int i t)) (hd : (x == ("__debug__" : Str)) = false := by decide) : JE X E (.Name x pos) (dC (.int i)) := by
  obtain ⟨t, hm⟩ := hm
  exact je_globI hg hm hd
theorem dRaise_one {c f : String} {a : DE} {N : DN} {Ψ : XS} {ρ : Dl.Env} {m : MM} : dRaise c [f] (dCons a dNil) N Ψ ρ m = a ρ m (fun x m1 => Ψ ρ c [(f, x)] m1) (Ψ ρ) := by
  simp [dRaise, dCons, dNil]
theorem dRaise_two {c f g : String} {a b : DE} {N : DN} {Ψ : XS} {ρ : Dl.Env} {m : MM} : dRaise c [f, g] (dCons a (dCons b dNil)) N Ψ ρ m = a ρ m (fun x m1 => b ρ m1 (fun y m2 => Ψ ρ c [(g, y), (f, x)] m2) (Ψ ρ)) (Ψ ρ) := by
  simp [dRaise, dCons, dNil]
theorem okE_int {n : Nat} {i : Int} : okE n (.int i) = true := rfl
theorem okE_bl {n : Nat} {b : Bool} : okE n (.bl b) = true := rfl
theorem okE_non {n : Nat} : okE n .non = true := rfl
end Dl

namespace Dl
open PySem L2 PyProof.Rows
/-! ### max, min of a list -/
def cMaxL : DCB := fun ds m Φ => match ds with
  | [d] => match asL m d with
    | some xs => ∃ ns, intsD xs = some ns ∧ 0 < ns.length ∧ ∀ k, k ∈ ns → (∀ y, y ∈ ns → y ≤ k) → Φ (.int k) m
    | none => False
  | _ => False
def cMinL : DCB := fun ds m Φ => match ds with
  | [d] => match asL m d with
    | some xs => ∃ ns, intsD xs = some ns ∧ 0 < ns.length ∧ ∀ k, k ∈ ns → (∀ y, y ∈ ns → k ≤ y) → Φ (.int k) m
    | none => False
  | _ => False
/-! ### shifts -/
def oShr : DO := oI (fun _ j => 0 ≤ j) fun i j => i / 2 ^ j.toNat
/-! ### xs.extend(ys) -/
def oExt : D → List D → MM → (D → MM → Prop) → Prop := fun x ds m Φ => match x, ds with
  | .hnd k, [y] => match moL m.M[k]?, asK m y with
    | some xs, some ys => xs.length + ys.length ≤ LIM ∧ Φ .non ⟨m.M.set k (.lst (xs ++ ys)), m.s⟩
    | _, _ => False
  | _, _ => False
/-! ### in, not in -/
def memD (x : D) (ys : List D) : Bool := ys.any fun y => eqD y x
def oInL (neg : Bool) : DO := fun x y m Φ => match y with
  | .lst ys => okE 64 x = true ∧ okE 64 (.lst ys) = true ∧ Φ (.bl (if neg then !memD x ys else memD x ys)) m
  | .rol ys => okE 64 x = true ∧ okE 64 (.rol ys) = true ∧ Φ (.bl (if neg then !memD x ys else memD x ys)) m
  | _ => False
/-! ### is True, is False -/
def oIsB : DO := fun x y m Φ => match x, y with
  | .bl a, .bl b => Φ (.bl (decide (a = b))) m
  | _, _ => False
def oNotB : DO := fun x y m Φ => match x, y with
  | .bl a, .bl b => Φ (.bl (!decide (a = b))) m
  | _, _ => False
/-! ### any -/
def blsD : List D → Option (List Bool)
  | [] => some []
  | .bl b :: r => (blsD r).map (b :: ·)
  | _ => none
theorem bls_ok {K : PySem.W.Frag} {w : Wd} : ∀ {ds : List D} {vs : List V} {bs : List Bool}, blsD ds = some bs → RepAll K w ds vs → vs = bs.map V.bl
  | [], vs, bs, e, r => by cases e; exact r
  | d :: ds, vs, bs, e, r => by
    obtain ⟨v, r', rfl, rv, rr⟩ := r
    cases d with
    | bl i =>
      have e : (blsD ds).map (i :: ·) = some bs := e
      cases q : blsD ds with
      | none => rw [q] at e; cases e
      | some ns' =>
        rw [q] at e; cases e
        cases (show v = V.bl i from rv)
        rw [bls_ok q rr]; rfl
    | _ => cases e
theorem bls_map : ∀ (ns : List Bool), blsD (ns.map D.bl) = some ns
  | [] => rfl
  | n :: ns => by
    show (blsD (ns.map D.bl)).map (n :: ·) = _
    rw [bls_map ns]; rfl
def cAny : DCB := fun ds m Φ => match ds with
  | [d] => match asL m d with
    | some xs => ∃ bs, blsD xs = some bs ∧ Φ (.bl (bs.any id)) m
    | none => False
  | _ => False
/-! ### xs[::-1] -/
def dRevL (a : DE) : DE := fun ρ m Φ Ψ => a ρ m (fun d m1 => match asL m1 d with
  | some ds => Φ (.lst ds.reverse) m1
  | none => False) Ψ
section
variable {X : Cx} {E : WX} {a : Expr} {Wa : DE} {pos : Pos}
end
/-! ### a comprehension over two walks -/
section
variable {X : Cx} {E : WX}
end
end Dl

namespace Dl
open PySem L2 PyProof.Rows
/-! ### objects of own classes -/
def moI : Option MO → Option (String × List (String × D))
  | some (.ins c fs) => some (c, fs)
  | _ => none
theorem moI_eq {o : Option MO} {c : String} {fs : List (String × D)} (h : moI o = some (c, fs)) : o = some (.ins c fs) := by
  cases o with
  | none => cases h
  | some o =>
    cases o with
    | ins d gs => cases h; rfl
    | _ => cases h
theorem moI_ins {c : String} {fs : List (String × D)} : moI (some (.ins c fs)) = some (c, fs) := rfl
/-- what the written part says of the classes cs and a field's name f -/
def FldT (K : PySem.W.Frag) (cs : List String) (f : String) : Prop := ∀ c, cs.contains c = true → Cls K (kcl K c) ∧ NoAttr K (kcl K c) (PySem.Str.ofString f)
theorem fldT_nil {K : PySem.W.Frag} {f : String} : FldT K [] f := fun c h => by cases h
/-- o.f -/
def dFld (cs : List String) (f : String) (o : DE) : DE := fun ρ m Φ Ψ => o ρ m (fun x m1 => match x with
  | .hnd k => match moI m1.M[k]? with
    | some (c, fs) => cs.contains c = true ∧ ∃ v, fs.lookup f = some v ∧ Φ v m1
    | none => False
  | _ => False) Ψ
section
variable {X : Cx} {E : WX} {o e : Expr} {Wo We : DE} {f : String} {cs : List String} {pos p' tpos : Pos}
theorem je_fld (T : FldT X.K cs f) (ho : JE X E o Wo) (hb : attributeBase o (PySem.Str.ofString f) X.env (eval o X.env) = eval o X.env := by rfl) : JE X E (.Attribute o (PySem.Str.ofString f) pos) (dFld cs f Wo) :=
  PE.imp (pe_fld ho hb) fun σ H Q ⟨w, ρ, m, Ψ, Φ, a, vl, h⟩ => by
  refine ⟨w, ρ, m, Ψ, _, a, fun x m1 w1 H1 v l1 h1 r1 q1 => ?_, h⟩
  split at q1
  · rename_i k
    split at q1
    · rename_i c fs e
      obtain ⟨hc, y, hy, q1⟩ := q1
      obtain ⟨b, rfl, eb⟩ := r1
      obtain ⟨dx, vs, hx, rf⟩ := h1.obj k b _ eb (moI_eq e)
      obtain ⟨u, hu, ru⟩ := rf.look hy
      obtain ⟨t1, t2⟩ := T c hc
      exact ⟨b, kcl X.K c, dx, vs, u, rfl, hx, t1, t2, hu, vl y m1 w1 H1 u l1 h1 ru q1⟩
    · exact q1.elim
  · exact q1.elim
/-- o.f = e -/
def dSetF (cs : List String) (f : String) (e o : DE) : DS := fun N Ψ ρ m => e ρ m (fun v m1 => o ρ m1 (fun x m2 => match x with
  | .hnd k => match moI m2.M[k]? with
    | some (c, fs) => cs.contains c = true ∧ fs.length < 1000 ∧ N.nx ρ ⟨m2.M.set k (.ins c (putD f v fs)), m2.s⟩
    | none => False
  | _ => False) (Ψ ρ)) (Ψ ρ)
theorem js_fld (T : FldT X.K cs f) (ho : JE X E o Wo) (he : JE X E e We) (hs : swapsWith e (some (.Attribute o (PySem.Str.ofString f) p')) pos.line X.env = pure false := by rfl) : JS X E (.Assign [.Attribute o (PySem.Str.ofString f) p'] e pos) (dSetF cs f We Wo) :=
  PS.imp (ps_fld ho he hs) fun D σ H ⟨w, ρ, m, Ψ, N, a, n, h⟩ => by
  refine ⟨w, ρ, m, Ψ ρ, _, a.at, fun d m1 w1 H1 v l1 h1 r1 q1 => ?_, h⟩
  refine ⟨w1, ρ, m1, Ψ ρ, _, (a.to l1 h1).at, fun x m2 w2 H2 u l2 h2 r2 q2 => ?_, q1⟩
  split at q2
  · rename_i k
    split at q2
    · rename_i c fs e
      obtain ⟨hc, hlen, q2⟩ := q2
      obtain ⟨b, rfl, eb⟩ := r2
      obtain ⟨dx, vs, hx, rf⟩ := h2.obj k b _ eb (moI_eq e)
      obtain ⟨t1, t2⟩ := T c hc
      refine ⟨b, kcl X.K c, dx, vs, rfl, hx, t1, t2, by rw [rf.length]; exact hlen, ?_⟩
      have l12 := l1.trans l2
      exact n.nx ρ _ w2 _ σ l12 (h2.wr (o' := .ins c (putD f d fs)) eb (moI_eq e) (fun z => by cases z) ⟨dx, _, upd_same, RepF.put (Rep.mono l2 _ _ r1) rf⟩) (a.s.mono l12) q2
    · exact q2.elim
  · exact q2.elim
/-- o.f += e, of ints -/
def dAugF (cs : List String) (f : String) (g : Int → Int → Int) (e o : DE) : DS := fun N Ψ ρ m => o ρ m (fun x m1 => match x with
  | .hnd k => match moI m1.M[k]? with
    | some (c, fs) => cs.contains c = true ∧ ∃ i, fs.lookup f = some (.int i) ∧ e ρ m1 (fun y m2 => match y, moI m2.M[k]? with
      | .int j, some (c', fs') => c' = c ∧ fs'.length < 1000 ∧ N.nx ρ ⟨m2.M.set k (.ins c (putD f (.int (g i j)) fs')), m2.s⟩
      | _, _ => False) (Ψ ρ)
    | none => False
  | _ => False) (Ψ ρ)
end
/-! ### methods -/
/-- a method of the class c keeps its worth -/
def OkM (P : Program) (w : World) (K : PySem.W.Frag) (base : Heap) (mg : Str → Option Value) (c : String) (mn : String) (lv : Nat) (ps : List Str) (C : DC) : Prop :=
  ∃ f fd, Cls K (kcl K c) ∧ Meth K (kcl K c) (PySem.Str.ofString mn) f ∧ BA fd ps ∧ FnOk P w K mg base (L2.CX P w) lv f fd ps (spOf K ps.length C)
def OkMs (P : Program) (w : World) (K : PySem.W.Frag) (base : Heap) (mg : Str → Option Value) (mn : String) (lv n : Nat) (tab : List (String × DC)) : Prop :=
  ∀ c C, tab.lookup c = some C → ∃ ps, ps.length = n + 1 ∧ OkM P w K base mg c mn lv ps C
section
variable {P : Program} {w : World} {K : PySem.W.Frag} {base : Heap} {mg : Str → Option Value} {mn : String} {lv n : Nat}
theorem okMs_nil : OkMs P w K base mg mn lv n [] := fun c C h => by cases h
theorem OkM.mono {c : String} {lv' : Nat} {ps : List Str} {C : DC} (h : OkM P w K base mg c mn lv ps C) (l : lv ≤ lv') : OkM P w K base mg c mn lv' ps C := by
  obtain ⟨f, fd, a, b, c, d⟩ := h
  exact ⟨f, fd, a, b, c, d.mono l⟩
theorem okMs_cons {c : String} {lv' : Nat} {ps : List Str} {C : DC} {tab : List (String × DC)} (h : OkM P w K base mg c mn lv' ps C) (hn : ps.length = n + 1) (l : lv' ≤ lv) (r : OkMs P w K base mg mn lv n tab) : OkMs P w K base mg mn lv n ((c, C) :: tab) := fun c' C' e => by
  rw [List.lookup_cons] at e
  cases q : c' == c with
  | true =>
    rw [q] at e
    cases e
    have z := beq_iff_eq.mp q
    subst z
    exact ⟨ps, hn, h.mono l⟩
  | false => rw [q] at e; exact r c' C' e
end
def tMethD (X : Cx) (mn : Str) (E : WX) (ta : TE) (t : TA) : TE := fun σ H Q => ta σ H fun x H1 => ∃ (a C dx : Addr) (fs : List (Str × V)) (f : Addr) (fd : FuncData) (ps : List Str) (sp : Sp) (k : Nat), x = .ref a ∧ H1 a = some (.ins C dx fs) ∧ fs.lookup mn = none ∧
  Cls X.K C ∧ Meth X.K C mn f ∧ FnOk X.prog X.w X.K X.mg X.base (L2.CX X.prog X.w) k f fd ps sp ∧ Room k X.A ∧ BA fd ps ∧ t σ H1 fun vs H2 => sp (x :: vs) H2 Q (WE E σ)
section
variable {X : Cx} {E : WX} {o e : Expr} {es : List Expr} {ta : TE} {t : TA} {mn : Str} {apos pos : Pos}
theorem pe_methD {pl : Sem Bool} (tk : Takes X E) (he : PE X o ta) (ha : PA X (e :: es) t)
    (hst : starEach (e :: es) X.env = (false, eval e X.env) :: starEach es X.env := by rfl) (hpl : (backTo pos (starEach es X.env)).any (·.1) = false := by rfl)
    (ht : eval (.Call (.Attribute o mn apos) (e :: es) [] pos) X.env = (do
      let ov ← eval o X.env
      standAt apos.atName
      let (f, first) ← holding [ov] (getMethod ov mn pl)
      callWith pos f first (backTo pos (starEach (e :: es) X.env)) (backToKw pos (keywordEach [] X.env))) := by rfl) :
    PE X (.Call (.Attribute o mn apos) (e :: es) [] pos) (tMethD X mn E ta t) := by
  refine ⟨fun pins s σ H Q I h => ?_⟩
  refine PySem.W.methodCall_KW (pl := pl) (thn (he.run pins s σ H _ I h) fun u s1 ⟨x, H1, I1, rx, a, C, dx, fs, f, fd, ps, sp, k, ex, ea, l, c, hm, F, hr, hb, q⟩ => ?_) ht
  subst ex
  obtain rfl : u = Value.ref a := rx
  refine getmeth_ok I1 ea c hm l ?_
  refine PySem.W.callWith_K (first := [.ref a]) (h₀ := X.base) I.ok.mod.kin hm.kp (thn (ha.run pos pins s1 σ H1 _ I1 q) fun us s2 ⟨vs, H2, I2, r, q2⟩ => ⟨I2.kIn, ?_⟩) hst hpl
  exact run_fnSD (us := .ref a :: us) (vs := .ref a :: vs) F hr (Binds.all hb) .nil (passAt tk σ) I2 (.cons rfl r) (by rw [List.append_nil]; exact q2)
theorem pe_methD0 {pl : Sem Bool} (tk : Takes X E) (he : PE X o ta)
    (ht : eval (.Call (.Attribute o mn apos) [] [] pos) X.env = (do
      let ov ← eval o X.env
      standAt apos.atName
      let (f, first) ← holding [ov] (getMethod ov mn pl)
      callWith pos f first (backTo pos (starEach [] X.env)) (backToKw pos (keywordEach [] X.env))) := by rfl) :
    PE X (.Call (.Attribute o mn apos) [] [] pos) (tMethD X mn E ta tNil) := by
  refine ⟨fun pins s σ H Q I h => ?_⟩
  refine PySem.W.methodCall_KW (pl := pl) (thn (he.run pins s σ H _ I h) fun u s1 ⟨x, H1, I1, rx, a, C, dx, fs, f, fd, ps, sp, k, ex, ea, l, c, hm, F, hr, hb, q⟩ => ?_) ht
  subst ex
  obtain rfl : u = Value.ref a := rx
  refine getmeth_ok I1 ea c hm l ?_
  exact PySem.W.callWith_K0 (first := [.ref a]) I1.kIn hm.kp (run_fnSD (us := [.ref a]) (vs := [.ref a]) F hr (Binds.all hb) .nil (passAt tk σ) I1 (.cons rfl .nil) q)
end
/-- o.m(..): tab tells each class's worth -/
def dMeth (tab : List (String × DC)) (mn : String) (n : Nat) (o : DE) (r : DA) : DE := fun ρ m Φ Ψ => o ρ m (fun x m1 => match x with
  | .hnd k => match moI m1.M[k]? with
    | some (c, fs) => match tab.lookup c with
      | some C => fs.lookup mn = none ∧ r ρ m1 (fun ds m2 => ds.length = n ∧ C (.hnd k :: ds) m2 Φ Ψ) Ψ
      | none => False
    | none => False
  | _ => False) Ψ
section
variable {X : Cx} {E : WX} {o e : Expr} {es : List Expr} {Wo : DE} {Ws : DA} {mn : String} {apos pos : Pos} {tab : List (String × DC)} {lv n : Nat}
theorem meth_ok {ta : TE} {t : TA} {σ : L2.St} {H : Hp} {Q : VK} (M : OkMs X.prog X.w X.K X.base X.mg mn lv n tab) (hr : Room lv X.A) (h : lift X.K E (dMeth tab mn n Wo Ws) σ H Q) : tMethD X (PySem.Str.ofString mn) E (lift X.K E Wo) (liftA X.K E Ws) σ H Q := by
  obtain ⟨w, ρ, m, Ψ, Φ, a, vl, h⟩ := h
  refine ⟨w, ρ, m, Ψ, _, a, fun x m1 w1 H1 v l1 h1 r1 q1 => ?_, h⟩
  split at q1
  · rename_i k
    split at q1
    · rename_i c fs e
      split at q1
      · rename_i C eC
        obtain ⟨hno, q1⟩ := q1
        obtain ⟨ps, hps, f, fd, c1, c2, b, F⟩ := M c C eC
        obtain ⟨b0, rfl, eb⟩ := r1
        obtain ⟨dx, vs, hx, rf⟩ := h1.obj k b0 _ eb (moI_eq e)
        refine ⟨b0, kcl X.K c, dx, vs, f, fd, ps, _, lv, rfl, hx, rf.none hno, c1, c2, F, hr, b, w1, ρ, m1, Ψ, _, a.to l1 h1, fun ds m2 w2 H2 us l2 h2 r2 q2 => ?_, q1⟩
        obtain ⟨hn, q2⟩ := q2
        have z := call_ok (X := X) (C := C) (n := ps.length) (ds := .hnd k :: ds) (vs := .ref b0 :: us) ((a.to l1 h1).to l2 h2) (vl.mono (l1.trans l2)) ⟨_, _, rfl, ⟨b0, rfl, l2.th _ _ eb⟩, r2⟩ (by rw [List.length_cons, hn, hps]) q2
        rw [List.append_nil] at z
        exact z
      · exact q1.elim
    · exact q1.elim
  · exact q1.elim
theorem je_meth {pl : Sem Bool} (M : OkMs X.prog X.w X.K X.base X.mg mn lv n tab) (tk : Takes X E) (hr : Room lv X.A) (ho : JE X E o Wo) (ha : JA X E (e :: es) Ws)
    (hst : starEach (e :: es) X.env = (false, eval e X.env) :: starEach es X.env := by rfl) (hpl : (backTo pos (starEach es X.env)).any (·.1) = false := by rfl)
    (ht : eval (.Call (.Attribute o (PySem.Str.ofString mn) apos) (e :: es) [] pos) X.env = (do
      let ov ← eval o X.env
      standAt apos.atName
      let (f, first) ← holding [ov] (getMethod ov (PySem.Str.ofString mn) pl)
      callWith pos f first (backTo pos (starEach (e :: es) X.env)) (backToKw pos (keywordEach [] X.env))) := by rfl) :
    JE X E (.Call (.Attribute o (PySem.Str.ofString mn) apos) (e :: es) [] pos) (dMeth tab mn n Wo Ws) := PE.imp (pe_methD (pl := pl) tk ho ha hst hpl ht) fun _ _ _ h => meth_ok (ta := lift X.K E Wo) (t := liftA X.K E Ws) M hr h
theorem je_meth0 {pl : Sem Bool} (M : OkMs X.prog X.w X.K X.base X.mg mn lv 0 tab) (tk : Takes X E) (hr : Room lv X.A) (ho : JE X E o Wo)
    (ht : eval (.Call (.Attribute o (PySem.Str.ofString mn) apos) [] [] pos) X.env = (do
      let ov ← eval o X.env
      standAt apos.atName
      let (f, first) ← holding [ov] (getMethod ov (PySem.Str.ofString mn) pl)
      callWith pos f first (backTo pos (starEach [] X.env)) (backToKw pos (keywordEach [] X.env))) := by rfl) :
    JE X E (.Call (.Attribute o (PySem.Str.ofString mn) apos) [] [] pos) (dMeth tab mn 0 Wo dNil) := PE.imp (pe_methD0 (pl := pl) tk ho ht) fun σ H Q h => by
  obtain ⟨w, ρ, m, Ψ, Φ, a, vl, h⟩ := meth_ok (ta := lift X.K E Wo) (t := liftA X.K E dNil) M hr h
  refine ⟨w, ρ, m, Ψ, Φ, a, fun d m1 w1 H1 v l1 h1 r1 q1 => ?_, h⟩
  obtain ⟨b0, C, dx, vs, f, fd, ps, sp, k, e1, e2, e3, e4, e5, e6, e7, e8, w', ρ', m', Ψ', Φ', a', n', q'⟩ := vl d m1 w1 H1 v l1 h1 r1 q1
  exact ⟨b0, C, dx, vs, f, fd, ps, sp, k, e1, e2, e3, e4, e5, e6, e7, e8, n' [] m' w' _ [] (.refl w') a'.h rfl q'⟩
end
/-! ### C(..) -/
def OkI (P : Program) (w : World) (K : PySem.W.Frag) (mg : Str → Option Value) (base : Heap) (c : String) (lv : Nat) (ps : List Str) (C : DC) : Prop :=
  ∃ f fd, mg (PySem.Str.ofString c) = some (.ref (kcl K c)) ∧ Mk K (kcl K c) f ∧ BA fd ps ∧ FnOk P w K mg base (L2.CX P w) lv f fd ps (spOf K ps.length C)
def dMake (n : Nat) (c : String) (C : DC) (r : DA) : DE := fun ρ m Φ Ψ => r ρ m (fun ds m1 => ds.length = n ∧ C (.hnd m1.M.length :: ds) (m1.push (.ins c [])) (fun d m2 => d = .non ∧ Φ (.hnd m1.M.length) m2) Ψ) Ψ
section
variable {X : Cx} {E : WX} {e : Expr} {es : List Expr} {Ws : DA} {c : String} {p pos : Pos} {lv : Nat} {ps : List Str} {C : DC}
theorem run_makeSD {f : Addr} {fd : FuncData} {A0 : Addr} {k : Nat} {sp : Sp} {E0 : XK} {pins : List (Addr × Obj)} {σ : L2.St} {H : Hp} {s : Shared} {Q : VK} {us : List Value} {vs : List V} (M : Mk X.K A0 f) (F : FnOk X.prog X.w X.K X.mg X.base (L2.CX X.prog X.w) k f fd ps sp) (hr : Room (k + 1) X.A) (hb : BA fd ps)
    (hx : PassesAt (L2.CX X.prog X.w) X σ E0) (I : Inv X pins σ H s) (r : Vals vs us)
    (h : ∀ x dx, H x = none → H dx = none → dx ≠ x → sp (.ref x :: vs) (upd (upd H dx (.own x)) x (.ins A0 dx [])) (fun v H2 => v = .non ∧ Q (.ref x) H2) E0) :
    wpAny (model X.prog X.w) X.A (call (.ref A0) us) (EP X pins σ Q) X.xe s := by
  have hq := h (s.heap.objs.size + 1) s.heap.objs.size (I.hok.fresh (Nat.le_succ _)) (I.hok.fresh (Nat.le_refl _)) (Nat.ne_of_lt (Nat.lt_succ_self _))
  have I2 := Inv.made (C := A0) I
  have r2 : Vals (V.ref (s.heap.objs.size + 1) :: vs) (Value.ref (s.heap.objs.size + 1) :: us) := .cons rfl r
  have hl : (Value.ref (s.heap.objs.size + 1) :: us).length = ps.length := by
    have e := r2.length
    rw [F.len _ _ _ _ hq] at e
    exact e.symm
  have b2 := Binds.all (K := X.K) hb _ (Value.ref (s.heap.objs.size + 1) :: us) I2.kIn (by rw [List.append_nil]; exact hl)
  rw [List.append_nil] at b2
  refine wpAny_call (make_map (f := f) I.kIn M.makes M.init (beq_iff_eq.mp M.fn) (codeAny_mono (F.run _ X.stack _ _ ⟨Value.ref (s.heap.objs.size + 1) :: us, []⟩ (Value.ref (s.heap.objs.size + 1) :: us) _ _ E0 (hr.make A0 us [])
    (I2.env0.make A0 us []) b2 r2 hq) fun r s' hq' => ?_))
  cases r with
  | error e => exact hx pins _ _ e s' I2 hq'
  | ok fl =>
    cases fl with
    | ret u =>
      obtain ⟨v, H', I3, rv, ev, q3⟩ := I2.after hq'
      subst ev
      exact ⟨rv, ⟨V.ref (s.heap.objs.size + 1), H', I3, rfl, q3⟩⟩
    | next => exact False.elim hq'
    | brk => exact False.elim hq'
    | cont => exact False.elim hq'
theorem HRep.make {K : PySem.W.Frag} {w : Wd} {m : MM} {H : Hp} {x dx : Addr} {c : String} (h : HRep K w m H) (hx : H x = none) (hdx : H dx = none) (hne : dx ≠ x) : HRep K (w.add x) (m.push (.ins c [])) (upd (upd H dx (.own x)) x (.ins (kcl K c) dx [])) := by
  have h1 : HRep K w m (upd H dx (.own x)) := h.ex (ex_new hdx)
  have hx1 : upd H dx (.own x) x = none := by rw [upd_ne (Ne.symm hne)]; exact hx
  exact h1.add hx1 ⟨dx, [], upd_same, rfl⟩
theorem make_sp {w : Wd} {ρ : Dl.Env} {m : MM} {Ψ : XP} {Φ : D → MM → Prop} {σ : L2.St} {H : Hp} {Q : VK} {ds : List D} {vs : List V} {x dx : Addr} (a : At X.K E w σ H ρ m Ψ) (vl : VLift X.K w Q Φ) (r : RepAll X.K w ds vs) (hn : ds.length + 1 = ps.length)
    (q : C (.hnd m.M.length :: ds) (m.push (.ins c [])) (fun d m2 => d = .non ∧ Φ (.hnd m.M.length) m2) Ψ) (hx : H x = none) (hdx : H dx = none) (hne : dx ≠ x) :
    spOf X.K ps.length C (.ref x :: vs) (upd (upd H dx (.own x)) x (.ins (kcl X.K c) dx [])) (fun v H2 => v = .non ∧ Q (.ref x) H2) (WE E σ) := by
  refine ⟨by rw [List.length_cons, r.length]; exact hn, w.add x, .hnd m.M.length :: ds, m.push (.ins c []), _, Ψ, HRep.make a.h hx hdx hne, ⟨_, _, rfl, rep_add a.h, RepAll.mono Wd.le_add _ _ r⟩, ?_, ?_, q⟩
  · rintro d m' w' H' v l h' rd ⟨rfl, q'⟩
    refine ⟨rd, vl (.hnd m.M.length) m' w' H' _ (Wd.le_add.trans l) h' ?_ q'⟩
    exact Rep.mono l _ _ (rep_add a.h)
  · intro C' fs m' w' H' d xs l h b cc q
    exact a.x C' fs m' w' H' d xs (Wd.le_add.trans l) h b cc q
theorem je_make (G : OkI X.prog X.w X.K X.mg X.base c lv ps C) (tk : Takes X E) (hr : Room (lv + 1) X.A) (hg : Gl X (PySem.Str.ofString c)) (ha : JA X E (e :: es) Ws) (n : Nat) (hn : ps.length = n + 1 := by rfl) (hdb : (PySem.Str.ofString c == ("__debug__" : Str)) = false := by decide)
    (he : starEach (e :: es) X.env = (false, eval e X.env) :: starEach es X.env := by rfl) (hpl : (backTo pos (starEach es X.env)).any (·.1) = false := by rfl) : JE X E (.Call (.Name (PySem.Str.ofString c) p) (e :: es) [] pos) (dMake n c C Ws) := by
  obtain ⟨f, fd, hm, M, b, F⟩ := G
  refine ⟨fun pins s σ H Q I h => ?_⟩
  obtain ⟨w, ρ, m, Ψ, Φ, a, vl, h⟩ := h
  refine wpAny_Call_Name_kw (ld_glob I hg hm ?_ hdb)
  refine PySem.W.callWith_K (h₀ := X.base) I.ok.mod.kin M.kp (thn (ha.run pos pins s σ H (fun vs H1 => ∃ (w1 : Wd) (ds : List D) (m1 : MM), w.le w1 ∧ HRep X.K w1 m1 H1 ∧ RepAll X.K w1 ds vs ∧ ds.length = n ∧ C (.hnd m1.M.length :: ds) (m1.push (.ins c [])) (fun d m2 => d = .non ∧ Φ (.hnd m1.M.length) m2) Ψ) I
    ⟨w, ρ, m, Ψ, _, a, fun ds m1 w1 H1 vs l1 h1 r1 q1 => ⟨w1, ds, m1, l1, h1, r1, q1.1, q1.2⟩, h⟩) fun us s1 ⟨vs, H1, I1, r, w1, ds, m1, l1, h1, r1, hl, q1⟩ => ⟨I1.kIn, ?_⟩) he hpl
  exact run_makeSD M F hr b (passAt tk σ) I1 r fun x dx hx hdx hne => make_sp (a.to l1 h1) (vl.mono l1) r1 (by omega) q1 hx hdx hne
end
/-! ### a def's own objects let go, others changed -/
def kept (m0 : MM) (M1 : List MO) : Prop := M1.length = m0.M.length ∧ ∀ (i : Nat) o, M1[i]? = some o → m0.M[i]? = some o ∨ clO m0.M.length o = true
theorem kept.rfl {m : MM} : kept m m.M := ⟨_root_.rfl, fun _ _ h => .inl h⟩
theorem kept.set {m : MM} {M1 : List MO} {k : Nat} {o : MO} (h : kept m M1) (c : clO m.M.length o = true) : kept m (M1.set k o) := by
  refine ⟨by rw [List.length_set]; exact h.1, fun i o' e => ?_⟩
  by_cases hi : k = i
  · subst hi
    by_cases hl : k < M1.length
    · rw [List.getElem?_set_self hl] at e
      cases e; exact .inr c
    · rw [List.getElem?_eq_none (by rw [List.length_set]; omega)] at e; cases e
  · rw [List.getElem?_set_ne hi] at e
    exact h.2 i o' e
def retQ (m0 : MM) (Φ : D → MM → Prop) : D → MM → Prop := fun d m' => ∃ M1 L d', m'.M = M1 ++ L ∧ kept m0 M1 ∧ (d' = d ∨ ∃ j ds, d = .hnd (m0.M.length + j) ∧ L[j]? = some (.lst ds) ∧ d' = .lst ds) ∧ clD m0.M.length d' = true ∧ Φ d' ⟨M1, m'.s⟩
def retX (m0 : MM) (Ψ : XP) : XP := fun c fs m' => ∃ M1 L, m'.M = M1 ++ L ∧ kept m0 M1 ∧ clF m0.M.length fs = true ∧ Ψ c fs ⟨M1, m'.s⟩
theorem retQ_id {m0 : MM} {Φ : D → MM → Prop} {d : D} (hc : clD m0.M.length d = true) (q : Φ d m0) : retQ m0 Φ d m0 := ⟨m0.M, [], d, (List.append_nil _).symm, kept.rfl, .inl rfl, hc, q⟩
theorem retX_id {m0 : MM} {Ψ : XP} {c : String} {fs : List (String × D)} (hc : clF m0.M.length fs = true) (q : Ψ c fs m0) : retX m0 Ψ c fs m0 := ⟨m0.M, [], (List.append_nil _).symm, kept.rfl, hc, q⟩
section
variable {P : Program} {w : World} {K : PySem.W.Frag} {mg : Str → Option Value} {base : Heap}
theorem cut_kept {w0 : Wd} {m : MM} {H0 H' : Hp} {w2 : Wd} {m2 : MM} {M1 L : List MO} (h0 : HRep K w0 m H0) (h2 : HRep K w2 m2 H') (e : m2.M = M1 ++ L) (k : kept m M1) : HRep K (w2.cut m.M.length) ⟨M1, m2.s⟩ H' := by
  have et : m2.M.take m.M.length = M1 := by rw [e, ← k.1, List.take_left' rfl]
  have z := h2.cut (n := m.M.length) fun o ho => by
    rw [et] at ho
    obtain ⟨i, hi, rfl⟩ := List.mem_iff_getElem.mp ho
    rcases k.2 i _ (List.getElem?_eq_getElem hi) with q | q
    · exact h0.cls _ (List.mem_of_getElem? q)
    · exact q
  have em : m2.cut m.M.length = ⟨M1, m2.s⟩ := by
    show (⟨m2.M.take m.M.length, m2.s⟩ : MM) = _
    rw [et]
  rw [em] at z
  exact z
theorem okDQ {x qual : Str} {st : Stmt} {f : Addr} {fd : FuncData} {N ps : List Str} {k : Nat} {C : DC} {W : DS} (F : Fun K x qual st f fd) (S : FnScope N ps (defScope st))
    (hb : ∀ (cdv : Value) (A : Around) (outer : List PySem.Env) (s : Shared) (H : Hp) (E : XK), Room k (A.deeper (envOfC qual (defScope st) s.heap.objs.size f cdv)) → JSs (cxOf (L2.CX P w) P w K mg base N qual (defScope st) f cdv A outer s H E) (wishE E) (defBody st) W)
    (hC : ∀ ds m Φ Ψ, ds.length = ps.length → C ds m Φ Ψ → W { nx := fun _ m' => retQ m Φ .non m', rt := retQ m Φ } (fun _ => retX m Ψ) (ds.map some ++ List.replicate (N.length - ds.length) none) m) :
    FnOk P w K mg base (L2.CX P w) (k + 1) f fd ps (spOf K ps.length C) := by
  refine F.okX S (fun vs H Q E h => h.1) fun cdv A outer s H vs Q E hr h => ⟨_, hb cdv A outer s H E hr, ?_⟩
  obtain ⟨hl, w0, ds, m, Φ, Ψ, h0, r, vl, xl, c⟩ := h
  have hd : ds.length = ps.length := r.length.symm.trans hl
  have hlen : w0.th.length = m.M.length := h0.len
  refine ⟨w0, _, m, fun _ => retX m Ψ, _, ⟨h0, slots_start r, fun ρ σ w1 l1 _ C fs m' w' H' d xs l a b c q => ?_⟩, ?_, hC ds m Φ Ψ hd c⟩
  · obtain ⟨M1, L, e, kp, hcl, q⟩ := q
    exact xl C fs ⟨M1, m'.s⟩ (w'.cut m.M.length) H' d xs (Wd.le_cut (l1.trans l) (Nat.le_of_eq hlen)) (cut_kept h0 a e kp) b (RepF.cut _ _ c hcl) q
  have fin : VLift K w0 Q (retQ m Φ) := fun d m' w' H' v l h' rd ⟨M1, L, d', e, kp, hd', hcl, q⟩ => by
    rcases hd' with rfl | ⟨j, es', rfl, ej, rfl⟩
    · exact vl _ _ _ H' v (Wd.le_cut l (Nat.le_of_eq hlen)) (cut_kept h0 h' e kp) (Rep.cut _ _ rd hcl) q
    · obtain ⟨a, rfl, q2⟩ := rd
      have em : m'.M[m.M.length + j]? = some (.lst es') := by
        rw [e, ← kp.1, List.getElem?_append_right (Nat.le_add_right _ _), Nat.add_sub_cancel_left]; exact ej
      obtain ⟨xs, fa, hx, rr, hf⟩ := h'.frz q2 em
      refine vl (.lst es') ⟨M1, m'.s⟩ ((w'.put a (.lst xs)).cut m.M.length) H' _ (Wd.le_cut (l.trans (Wd.le_put fa)) (Nat.le_of_eq hlen)) (cut_kept (m2 := ⟨m'.M.set (m.M.length + j) .dead, m'.s⟩) (L := L.set j .dead) h0 hf ?_ kp) ?_ q
      · show m'.M.set (m.M.length + j) .dead = _
        rw [e, ← kp.1, List.set_append_right _ _ (Nat.le_add_right _ _), Nat.add_sub_cancel_left]
      · exact ⟨a, xs, rfl, upd_same, RepAll.cut _ _ (RepAll.mono (Wd.le_put fa) _ _ rr) hcl⟩
  exact ⟨fun ρ m' w' H' σ l h' _ q => fin .non m' w' H' _ l h' rfl q, fin, fun _ _ _ _ _ _ _ _ q => q.elim, fun _ _ _ _ _ _ _ _ q => q.elim⟩
end
/-! ### what the top must say of the classes -/
/-- a method as the top has written it -/
def MthT (K : PySem.W.Frag) (c mn : String) (q : Str) (st : Stmt) (ps : List Str) : Prop := ∃ f fd, Fun K (PySem.Str.ofString mn) q st f fd ∧ Cls K (kcl K c) ∧ Meth K (kcl K c) (PySem.Str.ofString mn) f ∧ BA fd ps
/-- a class's __init__ as the top has written it -/
def IniT (K : PySem.W.Frag) (mg : Str → Option Value) (c : String) (q : Str) (st : Stmt) (ps : List Str) : Prop := ∃ f fd, Fun K "__init__" q st f fd ∧ mg (PySem.Str.ofString c) = some (.ref (kcl K c)) ∧ Mk K (kcl K c) f ∧ BA fd ps
end Dl

namespace Dl
open PySem L2 PyProof.Rows
section
variable {X : Cx} {E : WX}
/-- y = [..], a list that changes later -/
theorem js_setLcM (i : Nat) {y : Str} {py : Pos} {elt tg iter : Expr} {ifs : List Expr} {scope : Scope} {own : List (Str × Nat)} {pos spos : Pos} {wi : DI} {g : DG} {tt : DT} {te : DE} (hc : X.calm = true) (hN : X.N.Nodup) (hy : X.N[i]? = some y) (hyl : X.env.scope.names.lookup y = some .local)
    (hsw : swapsWith (.ListComp elt [⟨tg, iter, ifs, 0⟩] scope pos) (some (.Name y py)) spos.line X.env = pure true) (hi : JI X E tg iter wi) (ok : BlkOk X.N X.env.scope scope own)
    (hg : ∀ (s : Shared) (H : Hp) (C : Addr) (cl : List (Str × Addr)) (fp : List Addr), PG (X.blk s H scope (compEnvC scope cl C X.env) fp) tg (liftG X.K (own.map (·.2)) g))
    (ht : ∀ (s : Shared) (H : Hp) (C : Addr) (cl : List (Str × Addr)) (fp : List Addr), PTs (X.blk s H scope (compEnvC scope cl C X.env) fp) ifs (liftT X.K EF tt))
    (he : ∀ (s : Shared) (H : Hp) (C : Addr) (cl : List (Str × Addr)) (fp : List Addr), JE (X.blk s H scope (compEnvC scope cl C X.env) fp) EF elt te) (hs : ∀ x, foldedSetIterable iter X.env x = pure x := by intro _; rfl) :
    JS X E (.Assign [.Name y py] (.ListComp elt [⟨tg, iter, ifs, 0⟩] scope pos) spos) (dSet i (dLcM wi g tt te (own.map (·.2)))) := PS.imp (ps_setLc hc hN hy hyl hsw hi ok hg ht he hs) fun D σ H ⟨w, ρ, m, Ψ, N, a, n, h⟩ => by
  refine lcM_ok (E := E) ⟨w, ρ, m, Ψ ρ, _, a.at, fun d m1 w1 H1 v l1 h1 r1 q1 => ?_, h⟩
  exact n.nx _ m1 w1 H1 _ l1 h1 ((a.s.mono l1).set i r1) q1
end
/-! ### == where a side may be a list that changes -/
def deref (m : MM) : D → D
  | .hnd k => match moL m.M[k]? with
    | some ds => .lst ds
    | none => .hnd k
  | d => d
def oEqH : DO := fun x y m Φ => okE 64 (deref m x) = true ∧ okE 64 (deref m y) = true ∧ Φ (.bl (eqD (deref m x) (deref m y))) m
def oNeH : DO := fun x y m Φ => okE 64 (deref m x) = true ∧ okE 64 (deref m y) = true ∧ Φ (.bl (!eqD (deref m x) (deref m y))) m
/-- list(x), a list that changes later -/
def cListM : DCB := fun ds m Φ => match ds with
  | [d] => match asL m d with
    | some xs => Φ (.hnd m.M.length) (m.push (.lst xs))
    | none => match asT d with
      | some xs => Φ (.hnd m.M.length) (m.push (.lst xs))
      | none => False
  | _ => False
def cAll : DCB := fun ds m Φ => match ds with
  | [d] => match asL m d with
    | some xs => ∃ bs, blsD xs = some bs ∧ Φ (.bl (bs.all id)) m
    | none => False
  | _ => False
theorem cbl_all {K : PySem.W.Frag} : CbL K (rAll K) cAll := fun w m H ds vs Q Φ h r vl q => by
  unfold cAll at q
  split at q
  · obtain ⟨v, rfl, rv⟩ := rep1 r
    split at q
    · rename_i e
      obtain ⟨ns, e2, q⟩ := q
      obtain ⟨a, us, rfl, ha, ra⟩ := asL_ok h e rv
      exact ⟨a, ns, rfl, by rw [← bls_ok e2 ra]; exact ha, vl.bl h q⟩
    · exact q.elim
  · exact q.elim
def cTuple : DCB := fun ds m Φ => match ds with
  | [d] => match asL m d with
    | some xs => Φ (.tup xs) m
    | none => match asT d with
      | some _ => Φ d m
      | none => False
  | _ => False
-- kit_all
theorem kq_NoneType_int : kitB "NoneType" "int" = some false := by decide +kernel
theorem kq_NoneType_bool : kitB "NoneType" "bool" = some false := by decide +kernel
theorem kq_NoneType_list : kitB "NoneType" "list" = some false := by decide +kernel
theorem kq_NoneType_tuple : kitB "NoneType" "tuple" = some false := by decide +kernel
theorem kq_NoneType_str : kitB "NoneType" "str" = some false := by decide +kernel
theorem kq_bool_int : kitB "bool" "int" = some true := by decide +kernel
theorem kq_bool_bool : kitB "bool" "bool" = some true := by decide +kernel
theorem kq_bool_list : kitB "bool" "list" = some false := by decide +kernel
theorem kq_bool_tuple : kitB "bool" "tuple" = some false := by decide +kernel
theorem kq_bool_str : kitB "bool" "str" = some false := by decide +kernel
theorem kq_int_int : kitB "int" "int" = some true := by decide +kernel
theorem kq_int_bool : kitB "int" "bool" = some false := by decide +kernel
theorem kq_int_list : kitB "int" "list" = some false := by decide +kernel
theorem kq_int_tuple : kitB "int" "tuple" = some false := by decide +kernel
theorem kq_int_str : kitB "int" "str" = some false := by decide +kernel
theorem kq_str_int : kitB "str" "int" = some false := by decide +kernel
theorem kq_str_bool : kitB "str" "bool" = some false := by decide +kernel
theorem kq_str_list : kitB "str" "list" = some false := by decide +kernel
theorem kq_str_tuple : kitB "str" "tuple" = some false := by decide +kernel
theorem kq_str_str : kitB "str" "str" = some true := by decide +kernel
theorem kq_list_int : kitB "list" "int" = some false := by decide +kernel
theorem kq_list_bool : kitB "list" "bool" = some false := by decide +kernel
theorem kq_list_list : kitB "list" "list" = some true := by decide +kernel
theorem kq_list_tuple : kitB "list" "tuple" = some false := by decide +kernel
theorem kq_list_str : kitB "list" "str" = some false := by decide +kernel
theorem kq_tuple_int : kitB "tuple" "int" = some false := by decide +kernel
theorem kq_tuple_bool : kitB "tuple" "bool" = some false := by decide +kernel
theorem kq_tuple_list : kitB "tuple" "list" = some false := by decide +kernel
theorem kq_tuple_tuple : kitB "tuple" "tuple" = some true := by decide +kernel
theorem kq_tuple_str : kitB "tuple" "str" = some false := by decide +kernel
/-! ### plain data -/
mutual
def plD : D → Bool
  | .non => true
  | .bl _ => true
  | .int _ => true
  | .str x => PyData.strOk x
  | .lst ds => plDs ds
  | .tup ds => plDs ds
  | _ => false
def plDs : List D → Bool
  | [] => true
  | d :: ds => plD d && plDs ds
end
theorem plDs_of : ∀ {ds : List D}, (∀ d ∈ ds, plD d = true) → plDs ds = true
  | [], _ => rfl
  | e :: ds, h => by
    show (plD e && plDs ds) = true
    rw [h e List.mem_cons_self, plDs_of fun d hd => h d (List.mem_cons_of_mem _ hd)]; rfl
mutual
theorem okE_mono : ∀ (d : D) {n k : Nat}, okE n d = true → n ≤ k → okE k d = true
  | .non, _, _, _, _ => rfl
  | .bl _, _, _, _, _ => rfl
  | .int _, _, _, _, _ => rfl
  | .str _, _, _, h, _ => h
  | .lst ds, n, k, h, l => by
    have h : (decide (0 < n) && okEs (n - 1) ds) = true := h
    rw [Bool.and_eq_true] at h
    have h0 := of_decide_eq_true h.1
    show (decide (0 < k) && okEs (k - 1) ds) = true
    rw [decide_eq_true (by omega), okEs_mono ds h.2 (by omega)]; rfl
  | .rol ds, n, k, h, l => by
    have h : (decide (0 < n) && okEs (n - 1) ds) = true := h
    rw [Bool.and_eq_true] at h
    have h0 := of_decide_eq_true h.1
    show (decide (0 < k) && okEs (k - 1) ds) = true
    rw [decide_eq_true (by omega), okEs_mono ds h.2 (by omega)]; rfl
  | .tup ds, n, k, h, l => by
    have h : (decide (0 < n) && okEs (n - 1) ds) = true := h
    rw [Bool.and_eq_true] at h
    have h0 := of_decide_eq_true h.1
    show (decide (0 < k) && okEs (k - 1) ds) = true
    rw [decide_eq_true (by omega), okEs_mono ds h.2 (by omega)]; rfl
  | .rot ds, n, k, h, l => by
    have h : (decide (0 < n) && okEs (n - 1) ds) = true := h
    rw [Bool.and_eq_true] at h
    have h0 := of_decide_eq_true h.1
    show (decide (0 < k) && okEs (k - 1) ds) = true
    rw [decide_eq_true (by omega), okEs_mono ds h.2 (by omega)]; rfl
  | .ty _, _, _, h, _ => nomatch h
  | .cls _, _, _, h, _ => nomatch h
  | .hnd _, _, _, h, _ => nomatch h
  | .st _, _, _, h, _ => nomatch h
  | .exc _ _ _ _, _, _, h, _ => nomatch h
theorem okEs_mono : ∀ (ds : List D) {n k : Nat}, okEs n ds = true → n ≤ k → okEs k ds = true
  | [], _, _, _, _ => rfl
  | d :: ds, n, k, h, l => by
    have h : (okE n d && okEs n ds) = true := h
    rw [Bool.and_eq_true] at h
    show (okE k d && okEs k ds) = true
    rw [okE_mono d h.1 l, okEs_mono ds h.2 l]; rfl
end
theorem okEs_of {n : Nat} : ∀ {ds : List D}, (∀ d ∈ ds, okE n d = true) → okEs n ds = true
  | [], _ => rfl
  | e :: ds, h => by
    show (okE n e && okEs n ds) = true
    rw [h e List.mem_cons_self, okEs_of fun d hd => h d (List.mem_cons_of_mem _ hd)]; rfl
theorem okE_tup {n : Nat} {ds : List D} (h : ∀ d ∈ ds, okE n d = true) : okE (n + 1) (.tup ds) = true := by
  show (decide (0 < n + 1) && okEs (n + 1 - 1) ds) = true
  rw [decide_eq_true (by omega), Nat.add_sub_cancel, okEs_of h]; rfl
mutual
theorem clD_pl {n : Nat} : ∀ (d : D), plD d = true → clD n d = true
  | .non, _ => rfl
  | .bl _, _ => rfl
  | .int _, _ => rfl
  | .str _, _ => rfl
  | .lst ds, h => clAll_pl ds h
  | .tup ds, h => clAll_pl ds h
theorem clAll_pl {n : Nat} : ∀ (ds : List D), plDs ds = true → clAll n ds = true
  | [], _ => rfl
  | d :: ds, h => by
    have h : (plD d && plDs ds) = true := h
    rw [Bool.and_eq_true] at h
    show (clD n d && clAll n ds) = true
    rw [clD_pl d h.1, clAll_pl ds h.2]; rfl
end
/-- data are like themselves -/
theorem eqD_self {d : D} {n : Nat} (o : okE n d = true) : eqD d d = true := SeqAt.eqv_refl _ (okE_lay d n o).1
theorem app_len {M : List MO} {o : MO} : (M ++ [o])[M.length]? = some o := by rw [List.getElem?_append_right (Nat.le_refl _)]; simp
theorem set_app {M : List MO} {o z : MO} : (M ++ [o]).set M.length z = M ++ [z] := by rw [List.set_append_right _ _ (Nat.le_refl _)]; simp
theorem retQ_dead {m : MM} {Φ : D → MM → Prop} {d : D} {L : List MO} (hc : clD m.M.length d = true) (q : Φ d m) : retQ m Φ d ⟨m.M ++ L, m.s⟩ := ⟨m.M, L, d, rfl, kept.rfl, .inl rfl, hc, q⟩
theorem retQ_lst {m : MM} {Φ : D → MM → Prop} {xs : List D} (hc : clAll m.M.length xs = true) (q : Φ (.lst xs) m) : retQ m Φ (.hnd m.M.length) ⟨m.M ++ [.lst xs], m.s⟩ := ⟨m.M, [.lst xs], .lst xs, rfl, kept.rfl, .inr ⟨0, xs, rfl, rfl, rfl⟩, hc, q⟩
/-! ### repr of None too -/
def cRepr2 : DCB := fun ds m Φ => match ds with
  | [.non] => Φ (.str (PySem.Str.ofString "None")) m
  | ds => cRepr ds m Φ
def rRepr2 (K : PySem.W.Frag) : List V → Hp → VK → Prop := fun xs H Q => (xs = [.non] ∧ Q (.str (PySem.Str.ofString "None")) H) ∨ rRepr K xs H Q
theorem cbl_repr2 {K : PySem.W.Frag} : CbL K (rRepr2 K) cRepr2 := fun w m H ds vs Q Φ h r vl q => by
  unfold cRepr2 at q
  split at q
  · obtain ⟨v, rfl, rv⟩ := rep1 r
    cases (show v = V.non from rv)
    exact .inl ⟨rfl, vl.str h q⟩
  · exact .inr (cbl_repr w m H ds vs Q Φ h r vl q)
theorem callR_repr2 {X : Cx} (hg : X.A.guards = some []) (hu : X.A.units + 100 < cLine) : CallR X (.builtin "repr") (rRepr2 X.K) := by
  rintro pins s σ H xs us Q I rs (⟨rfl, q⟩ | q)
  · cases rs with
    | cons r rs =>
      cases rs
      cases r
      refine PySem.call_repr_slot (v := .none) (T := "NoneType") (idr := "NoneType.__repr__") (by omega) rfl PySem.F.slot_NoneType_repr.toG ?_
      refine PySem.call_gives PySem.F.slot_NoneType_repr rfl PySem.F.entry_NoneType_repr (PySem.F.args_NoneType_repr_1 _) PySem.gives_none_repr ⟨by rw [sizeLine_eq]; decide +kernel, ?_⟩
      exact ⟨_, _, rfl, .str (PySem.Str.ofString "None"), H, I.tok _, ⟨_, rfl⟩, q⟩
  · exact callR_repr hg hu pins s σ H xs us Q I rs q
section
variable {X : Cx} {E : WX} {a : Expr} {Wa : DE} {pos : Pos}
/-- a slice of a tuple, not the whole of it -/
def dSlT (a : DE) (lo hi : DPt) : DE := fun ρ m Φ Ψ => a ρ m (fun d m1 => lo ρ m1 (fun l m2 => hi ρ m2 (fun u m3 => match d with
  | .tup ds => ¬ (HT.sIx ds.length 0 l = 0 ∧ HT.sIx ds.length ds.length u = ds.length) ∧ Φ (.tup (cutD ds l u)) m3
  | _ => False) Ψ) Ψ) Ψ
end
end Dl

namespace Dl
open PySem L2
/-! ### a def that stands under another name; targets that are fields -/
section
variable {X : Cx} {E : WX} {o : Expr} {Wo : DE} {pos : Pos} {js : List Nat}
/-- o.f as a target -/
def dgFld (cs : List String) (f : String) (o : DE) : DG := fun d ρ m k => o ρ m (fun x m2 => match x with
  | .hnd i => match moI m2.M[i]? with
    | some (c, fs) => cs.contains c = true ∧ fs.length < 1000 ∧ k ρ ⟨m2.M.set i (.ins c (putD f d fs)), m2.s⟩
    | none => False
  | _ => False) XF
abbrev DGs := List D → Env → MM → (Env → MM → Prop) → Prop
def dgsNil : DGs := fun ds ρ m k => match ds with
  | [] => k ρ m
  | _ => False
def dgsCons (g : DG) (r : DGs) : DGs := fun ds ρ m k => match ds with
  | d :: ds => g d ρ m (fun ρ1 m1 => r ds ρ1 m1 k)
  | [] => False
theorem PGs.imp {ts : List Expr} {t t' : TGs} (h : PGs X ts t) (i : ∀ vs σ H Q, t' vs σ H Q → t vs σ H Q) : PGs X ts t' := ⟨fun pins s σ H vs us Q I r q => h.run pins s σ H vs us Q I r (i vs σ H Q q)⟩
def dgTupG (n : Nat) (G : DGs) : DG := fun d ρ m k => match asT d with
  | some ds => ds.length = n ∧ G ds ρ m k
  | none => False
end
end Dl

namespace Dl
open PySem L2
/-! ### a comprehension whose items change the store; [x] * n as a changing list -/
section
variable {X : Cx} {E : WX}
end
end Dl

namespace Dl
open PySem L2
/-! ### a changing list by a comprehension whose items change the store -/
section
variable {X : Cx} {E : WX}
end
end Dl

namespace Dl
open PySem L2
/-! ### a walk over a tuple -/
section
variable {X : Cx} {E : WX}
theorem asT_fix {K : PySem.W.Frag} {w : Wd} {d : D} {ds : List D} {v : V} (e : asT d = some ds) (r : Rep K w d v) : ∃ a xs, v = .ref a ∧ SqT K w.F a xs ∧ RepAll K w ds xs := by
  cases d with
  | tup es => cases e; obtain ⟨a, xs, e, q, r⟩ := r; exact ⟨a, xs, e, .inl (.inl q), r⟩
  | rot es => cases e; obtain ⟨a, xs, e, q, r⟩ := r; exact ⟨a, xs, e, q, r⟩
  | _ => cases e
end
end Dl


namespace Dl
open PySem L2
/-! ### a head by facts: what the top has bound, from one run -/
abbrev AlM : Type := He.Al × Bool
def obsM (fa : List He.Fa) (fn : List He.FnD) (ck : List (PySem.W.Frag → Bool)) (K : PySem.W.Frag) : AlM := (He.obsE fa fn K, ck.all fun f => f K)
def SaysM (fa : List He.Fa) (fn : List He.FnD) (ck : List (PySem.W.Frag → Bool)) (K : PySem.W.Frag) : Prop := obsM fa fn ck K = (He.valE fn, true)
def obsMG (n : Nat) (fa : List He.Fa) (fn : List He.FnD) (ck : List (PySem.W.Frag → Bool)) (g : Addr → Option Obj) : AlM := obsM fa fn ck (He.frG g (List.range n))
def hookM (n : Nat) (fa : List He.Fa) (fn : List He.FnD) (ck : List (PySem.W.Frag → Bool)) : PySem.W.Hook where
  α := AlM
  obs := fun s => obsMG n fa fn ck s.heap.get?
  val := fun _ => (He.valE fn, true)
  says := fun _ h => ∃ K : PySem.W.Frag, K.In h ∧ SaysM fa fn ck K
  of := fun _ _ e => ⟨_, He.frG_in, e⟩
  keeps := fun _ _ _ ⟨K, hK, c⟩ k => ⟨K, PySem.W.Frag.In.keeps hK k, c⟩
theorem obsMG_eq {n : Nat} {fa : List He.Fa} {fn : List He.FnD} {ck : List (PySem.W.Frag → Bool)} {g : Addr → Option Obj} {s : Shared} (h : ∀ a, g a = s.heap.get? a) : obsMG n fa fn ck g = (hookM n fa fn ck).obs s := by
  have e : g = s.heap.get? := funext h
  rw [e] <;> rfl
section
variable {fa : List He.Fa} {fn : List He.FnD} {ck : List (PySem.W.Frag → Bool)} {K : PySem.W.Frag} {h : Heap} {mg : Str → Option Value}
theorem SaysM.e (c : SaysM fa fn ck K) : He.SaysE fa fn K := congrArg (fun z : AlM => z.1) c
theorem SaysM.fact (c : SaysM fa fn ck K) (i : Nat) {f : He.Fa} (hf : fa[i]? = some f) : f.ok K = true := c.e.fact i hf
theorem SaysM.chk (c : SaysM fa fn ck K) (i : Nat) {f : PySem.W.Frag → Bool} (hf : ck[i]? = some f) : f K = true :=
  List.all_eq_true.mp (show (ck.all fun f => f K) = true from congrArg (fun z : AlM => z.2) c) f (List.mem_of_getElem? hf)
theorem defT_he (X : K.In h) (G : h.Ns mainGlobals mg) (c : SaysM fa fn ck K) {x : Str} {st : Stmt} {ps : List Str} (i j k : Nat) (hd : fn[i]? = some ⟨(x, none), x, x, defArgs st, defBody st, defScope st⟩) (hg : fa[j]? = some (.glo x)) (hk : fa[k]? = some (.keep x))
    (b : ∀ (kV doc pm : Value) (an : Option Addr) (cdv ct : Value) (us : List Value), us.length = ps.length → bindArgs (PySem.W.fnOf x x (defArgs st) (defBody st) (defScope st) .none kV doc pm an cdv ct) ⟨us, []⟩ = pure (ps.zip us)) : DefT K mg x st ps := by
  obtain ⟨oc, od, osl, kV, doc, pm, an, cdv, ct, l, cc⟩ := c.e.def_ i hd
  exact ⟨He.ga K x, _, fun_mk l cc (He.keep_ok (c.fact k hk)), He.glo_ok X G (c.fact j hg), b kV doc pm an cdv ct⟩
theorem mthT_he (c : SaysM fa fn ck K) {cl mn : String} {q : Str} {st : Stmt} {ps : List Str} (i j k : Nat) (hd : fn[i]? = some ⟨(PySem.Str.ofString cl, some (PySem.Str.ofString mn)), PySem.Str.ofString mn, q, defArgs st, defBody st, defScope st⟩) (hc : fa[j]? = some (.cls (PySem.Str.ofString cl))) (hm : fa[k]? = some (.meth (PySem.Str.ofString cl) (PySem.Str.ofString mn)))
    (b : ∀ (kV doc pm : Value) (an : Option Addr) (cdv ct : Value) (us : List Value), us.length = ps.length → bindArgs (PySem.W.fnOf (PySem.Str.ofString mn) q (defArgs st) (defBody st) (defScope st) .none kV doc pm an cdv ct) ⟨us, []⟩ = pure (ps.zip us)) : MthT K cl mn q st ps := by
  obtain ⟨oc, od, osl, kV, doc, pm, an, cdv, ct, l, cc⟩ := c.e.def_ i hd
  have M := He.meth_ok (c.fact k hm)
  exact ⟨He.ma K (He.ga K (PySem.Str.ofString cl)) (PySem.Str.ofString mn), _, fun_mk l cc M.3, He.cls_ok (c.fact j hc), M, b kV doc pm an cdv ct⟩
theorem iniT_he (X : K.In h) (G : h.Ns mainGlobals mg) (c : SaysM fa fn ck K) {cl : String} {q : Str} {st : Stmt} {ps : List Str} (i j k l2 : Nat) (hd : fn[i]? = some ⟨(PySem.Str.ofString cl, some "__init__"), "__init__", q, defArgs st, defBody st, defScope st⟩) (hg : fa[j]? = some (.glo (PySem.Str.ofString cl))) (hm : fa[k]? = some (.mkr (PySem.Str.ofString cl))) (hk : fa[l2]? = some (.meth (PySem.Str.ofString cl) "__init__"))
    (b : ∀ (kV doc pm : Value) (an : Option Addr) (cdv ct : Value) (us : List Value), us.length = ps.length → bindArgs (PySem.W.fnOf "__init__" q (defArgs st) (defBody st) (defScope st) .none kV doc pm an cdv ct) ⟨us, []⟩ = pure (ps.zip us)) : IniT K mg cl q st ps := by
  obtain ⟨oc, od, osl, kV, doc, pm, an, cdv, ct, l, cc⟩ := c.e.def_ i hd
  have M := He.meth_ok (c.fact l2 hk)
  exact ⟨He.ma K (He.ga K (PySem.Str.ofString cl)) "__init__", _, fun_mk l cc M.3, He.glo_ok X G (c.fact j hg), He.mkr_ok (c.fact k hm), b kV doc pm an cdv ct⟩
theorem fldT_he (c : SaysM fa fn ck K) {cl f : String} {cs : List String} (j k : Nat) (hc : fa[j]? = some (.cls (PySem.Str.ofString cl))) (hn : fa[k]? = some (.noat (PySem.Str.ofString cl) (PySem.Str.ofString f))) (r : FldT K cs f) : FldT K (cl :: cs) f := fun c' h => by
  rw [List.contains_cons] at h
  cases q : c' == cl with
  | true =>
    have z := beq_iff_eq.mp q
    subst z
    exact ⟨He.cls_ok (c.fact j hc), He.noat_ok (c.fact k hn)⟩
  | false =>
    rw [q] at h
    exact r c' h
end
/-! ### own exceptions -/
def oexB (K : PySem.W.Frag) (C : Addr) : Bool := match K.lookup C with
  | some ⟨.type "type", _, .cls cd, sl⟩ => (match cd.mro, sl.toList with
    | .ref C' :: bm, [_, _, _, _, some (.builtin n), _] => C' == C && (n == "ValueError.__new__" && (!cd.hasDel && (cd.hasDict && PySem.HandSPX.refsVE bm)))
    | _, _ => false)
  | _ => false
theorem oexB_ok {K : PySem.W.Frag} {C : Addr} (q : oexB K C = true) : ∃ nm q N bs bm sn sub ab col dd k0 k1 k2 k3 k5, K.lookup C = some (excClassObj nm q C N bs bm true sn sub ab col dd k0 k1 k2 k3 k5 "ValueError.__new__") ∧ PySem.HandSPX.refsVE bm = true := by
  unfold oexB at q
  split at q
  · rename_i dd cd sl ho
    split at q
    · rename_i C' bm k0 k1 k2 k3 n k5 hm hs
      simp only [Bool.and_eq_true, beq_iff_eq, Bool.not_eq_true'] at q
      obtain ⟨rfl, rfl, hdel, hdi, hr⟩ := q
      obtain ⟨nm, bs, mro, ns, qn, hd, sn, sub, ab, col, del⟩ := cd
      dsimp only at hm hdel hdi
      subst hm hdel hdi
      have hsl : sl = #[k0, k1, k2, k3, some (.builtin "ValueError.__new__"), k5] := by
        obtain ⟨l⟩ := sl
        simp only at hs
        rw [hs]
      subst hsl
      exact ⟨nm, qn, ns, bs, bm, sn, sub, ab, col, dd, k0, k1, k2, k3, k5, ho, hr⟩
    · cases q
  · cases q
def errB (c : String) (fs : List String) (K : PySem.W.Frag) : Bool :=
  let C := He.ga K (PySem.Str.ofString c)
  let fI := He.ma K C "__init__"
  He.eqO (PySem.W.nsIn K mainGlobals (PySem.Str.ofString c)) (some (some (.ref C))) && (oexB K C && (He.eqO (PySem.W.findIn K (.ref C) "__setattr__") (some (some (.builtin "object.__setattr__"))) && (decide (PySem.W.subIn K (.ref C) (.type "BaseException") = some true) && (decide (PySem.W.typeIn K (.ref C) = some (.type "type")) && (PySem.W.keepIn K (.ref C) && (fs.all (fun f => He.eqO (PySem.W.findIn K (.ref C) (PySem.Str.ofString f)) (some none)) &&
    (He.eqO (PySem.W.findIn K (.ref C) "__init__") (some (some (.ref fI))) && (decide (PySem.W.typeIn K (.ref fI) = some (.type "function")) && PySem.W.keepIn K (.ref fI)))))))))
def initBB (c : String) (K : PySem.W.Frag) : Bool :=
  let C := He.ga K (PySem.Str.ofString c)
  He.eqO (PySem.W.nsIn K mainGlobals (PySem.Str.ofString c)) (some (some (.ref C))) && (PySem.W.readsIn K C (.type "type") && (He.eqO (PySem.W.specialIn K (.ref C) "__getattribute__") (some (some (.builtin "type.__getattribute__"))) && (match PySem.W.findCls K (.ref C) (.type "type") "__init__" with | some (.val (.builtin n)) => n == "ValueError.__init__" | _ => false)))
section
variable {fa : List He.Fa} {fn : List He.FnD} {ck : List (PySem.W.Frag → Bool)} {K : PySem.W.Frag} {h : Heap} {mg : Str → Option Value}
theorem errT_he (X : K.In h) (G : h.Ns mainGlobals mg) (c : SaysM fa fn ck K) {cl : String} {q : Str} {st : Stmt} {ps : List Str} {fs : List String} (i j : Nat) (hd : fn[i]? = some ⟨(PySem.Str.ofString cl, some "__init__"), "__init__", q, defArgs st, defBody st, defScope st⟩) (hc : ck[j]? = some (errB cl fs))
    (b : ∀ (kV doc pm : Value) (an : Option Addr) (cdv ct : Value) (us : List Value), us.length = ps.length → bindArgs (PySem.W.fnOf "__init__" q (defArgs st) (defBody st) (defScope st) .none kV doc pm an cdv ct) ⟨us, []⟩ = pure (ps.zip us)) : ErrT K mg cl q st ps fs := by
  obtain ⟨oc, od, osl, kV, doc, pm, an, cdv, ct, l, cc⟩ := c.e.def_ i hd
  have e := c.chk j hc
  unfold errB at e
  simp only [Bool.and_eq_true] at e
  obtain ⟨e1, e2, e3, e4, e5, e6, e7, e8, e9, e10⟩ := e
  obtain ⟨nm, qq, N, bs, bm, sn, sub, ab, col, dd, k0, k1, k2, k3, k5, c1, c2⟩ := oexB_ok e2
  exact errT_mk X G (He.eqO_ok e1) c1 c2 (He.eqO_ok e3) (of_decide_eq_true e4) (of_decide_eq_true e5) e6 (fun f hf => He.eqO_ok (List.all_eq_true.mp e7 f hf)) (He.eqO_ok e8) (of_decide_eq_true e9) l cc e10 b
theorem initB_he (X : K.In h) (G : h.Ns mainGlobals mg) (c : SaysM fa fn ck K) {cl : String} (j : Nat) (hc : ck[j]? = some (initBB cl)) : InitB K mg cl := by
  have e := c.chk j hc
  unfold initBB at e
  simp only [Bool.and_eq_true] at e
  obtain ⟨e1, e2, e3, e4⟩ := e
  refine initB_mk X G (He.eqO_ok e1) e2 (He.eqO_ok e3) ?_
  split at e4
  · rename_i n hn
    rw [hn, beq_iff_eq.mp e4]
  · cases e4
end
/-! ### errors that are caught -/
section
variable {fa : List He.Fa} {fn : List He.FnD} {ck : List (PySem.W.Frag → Bool)} {K : PySem.W.Frag} {h : Heap} {mg : Str → Option Value}
end
/-! a text at the top -/
/-! own errors and ValueError -/
/-! a tuple of texts at the top -/
theorem walk_DGE {l : PySem.W.OpenLaw} {q : Program} {loose : List Str} {XP : (Str → Option Value) → Heap → Prop} {YP : World → Heap → Prop} {d : DefRec} {x : Str}
    (hn : l.most = some 63) (hdf : d.params.defaults = [])
    (F : ∀ (w : World) (mg : Str → Option Value) (fa : Addr) (h : Heap), YP w h → h.Ns mainGlobals mg → mg d.name = some (.ref fa) → ∃ (K : PySem.W.Frag) (fd : FuncData), K.In h ∧ (∀ (s : Shared) (u : Value), BindsTo s fd ⟨[u], []⟩ [(x, u)]) ∧
      ∀ base : Heap, K.In base → base.Ns mainGlobals mg → LawAt l.prog w K mg base fa fd [x] (spOf K 1 (CLaw ClawT))) :
    PySem.W.WalkO q loose XP YP l.row.toRowW d [] (fun f vs => PySem.call f vs) := by
  apply Att.attach_call hn hdf
  intro w s₀ s₁ mg mb fa o pm cd doc a vs ns G Y ho hd hcd hmg hobj hints hlen hg
  obtain ⟨K, fd, KX, bnd, prom⟩ := F w mg fa _ Y G.T.g hmg
  obtain ⟨sq, env, fin⟩ := law_start (P := l.prog) (w := w) KX G.T.g G.T.b G.T.builtins G.T.nolimit hg hobj hints (Nat.le_trans hlen (by decide))
  refine codeAny_mono (prom _ env.mod.kin env.mod.glob s₁ _ ⟨[.ref a], []⟩ [.ref a] [.ref a] (fun v _ => v = .bl true) (fun _ _ _ => False) env (bnd s₁ (.ref a)) (.cons rfl .nil) (law_sp hlen sq)) ?_
  intro r s' z
  match r, z with
  | .error e, z => exact (cx_false z).elim
  | .ok (.ret u), z =>
    obtain ⟨rfl, rest⟩ := fin u s' z
    exact ⟨rfl, rest⟩
section
open PySem PySem.W PySem.Calls PyProof.Rows HandSHeadRun
noncomputable abbrev endK (r : OpenRow) (M : Nat) (w : World) (os : OsState) : Option SharedT := endF (stepQ (denQ tabQ) r.prog w) M r.prog w os
noncomputable abbrev lookK (r : OpenRow) (w : World) (s : SharedT) : Bool := looksF r.prog (boot_heap w.params) s.abs
noncomputable abbrev seenK (r : OpenRow) (q : Program) (loose : List PySem.Str) (s : SharedT) := seenQ q loose (importedModules r.prog.main.body) (fun s => xlAt q [] s && recOk r.toRowW.records s) s.abs
theorem runEq_of {r : OpenRow} {q : Program} {H : Hook} {ob : SharedT → H.α} {M : Nat} {loose : List PySem.Str} {w : World}
    (a : ∀ os, (endK r M w os).map (lookK r w) = some true) (b : ∀ os, (endK r M w os).map (seenK r q loose) = some (openGood q loose))
    (c : ∀ os, (endK r M w os).map ob = some (H.val w)) : RunEq r q H ob M loose w := by
  intro os
  obtain ⟨s, h1, h2⟩ := Option.map_eq_some_iff.mp (a os)
  have h3 := b os
  have h4 := c os
  unfold endK at h1 h3 h4
  rw [h1] at h3 h4 ⊢
  have h3 := Option.some.inj h3
  have h4 := Option.some.inj h4
  unfold lookK at h2
  unfold seenK at h3
  exact congrArg some (Prod.ext h2 (Prod.ext h3 h4))
end
theorem obsM_split {fa : List He.Fa} {fn : List He.FnD} {ck : List (PySem.W.Frag → Bool)} {K : PySem.W.Frag} (a : obsM fa [] ck K = ((true, []), true)) (b : obsM [] fn [] K = (He.valE fn, true)) : obsM fa fn ck K = (He.valE fn, true) := by
  have a1 : ((fa.all fun f => f.ok K) && ([] : List He.FnD).all fun d => (He.Fa.code d.at_ d.qual).ok K) = true := congrArg (fun z : AlM => z.1.1) a
  have a2 : (ck.all fun f => f K) = true := congrArg (fun z : AlM => z.2) a
  have b1 : (([] : List He.Fa).all (fun f => f.ok K) && fn.all fun d => (He.Fa.code d.at_ d.qual).ok K) = true := congrArg (fun z : AlM => z.1.1) b
  have b2 : (fn.map fun d => He.fnObs K d.at_) = fn.map He.FnD.val := congrArg (fun z : AlM => z.1.2) b
  have a1 := (Bool.and_eq_true_iff.mp a1).1
  have b1 := (Bool.and_eq_true_iff.mp b1).2
  show ((((fa.all fun f => f.ok K) && fn.all fun d => (He.Fa.code d.at_ d.qual).ok K), fn.map fun d => He.fnObs K d.at_), ck.all fun f => f K) = ((true, fn.map He.FnD.val), true)
  rw [a1, a2, b1, b2]
  rfl
section
open PySem PySem.W PySem.Calls PyProof.Rows HandSHeadRun
theorem runC_of {r : OpenRow} {n M : Nat} {fa : List He.Fa} {fn : List He.FnD} {ck : List (PySem.W.Frag → Bool)} {w : World}
    (a : ∀ os, (endK r M w os).map (fun s => obsMG n fa [] ck (getT s)) = some ((true, []), true)) (b : ∀ os, (endK r M w os).map (fun s => obsMG n [] fn [] (getT s)) = some (He.valE fn, true)) :
    ∀ os, (endK r M w os).map (fun s => obsMG n fa fn ck (getT s)) = some (He.valE fn, true) := by
  intro os
  obtain ⟨s, h1, h2⟩ := Option.map_eq_some_iff.mp (a os)
  have h3 := b os
  rw [h1] at h3 ⊢
  exact congrArg some (obsM_split h2 (Option.some.inj h3))
end
end Dl

namespace K87
open PySem L2 Dl
def top (i : Nat) : Stmt := PySem.Challenge.pw_layerask_k87_whole_false_products_are_bl.main.body.getD i (.Pass ⟨0, 0, 0, 0⟩)
abbrev s_FieldError_init : Stmt := inClass (top 6) 0
theorem sc_FieldError_init : FnScope ["self", "number"] ["self", "number"] (defScope s_FieldError_init) := ⟨rfl, rfl, rfl, by decide +kernel, rfl, by decide +kernel, by decide +kernel⟩
abbrev s_CircuitError_init : Stmt := inClass (top 7) 0
theorem sc_CircuitError_init : FnScope ["self", "part"] ["self", "part"] (defScope s_CircuitError_init) := ⟨rfl, rfl, rfl, by decide +kernel, rfl, by decide +kernel, by decide +kernel⟩
abbrev s_TalkError_init : Stmt := inClass (top 8) 0
theorem sc_TalkError_init : FnScope ["self", "step"] ["self", "step"] (defScope s_TalkError_init) := ⟨rfl, rfl, rfl, by decide +kernel, rfl, by decide +kernel, by decide +kernel⟩
abbrev s_SizeError_init : Stmt := inClass (top 9) 0
theorem sc_SizeError_init : FnScope ["self", "limit"] ["self", "limit"] (defScope s_SizeError_init) := ⟨rfl, rfl, rfl, by decide +kernel, rfl, by decide +kernel, by decide +kernel⟩
abbrev s_point_table : Stmt := top 1
theorem sc_point_table : FnScope ["point", "p", "table", "number", "low", "high", "entry"] ["point", "p"] (defScope s_point_table) := ⟨rfl, rfl, rfl, by decide +kernel, rfl, by decide +kernel, by decide +kernel⟩
abbrev s_value_at : Stmt := top 2
theorem sc_value_at : FnScope ["table", "point", "p", "number"] ["table", "point", "p"] (defScope s_value_at) := ⟨rfl, rfl, rfl, by decide +kernel, rfl, by decide +kernel, by decide +kernel⟩
abbrev s_fold : Stmt := top 3
theorem sc_fold : FnScope ["table", "number", "p", "half", "k"] ["table", "number", "p"] (defScope s_fold) := ⟨rfl, rfl, rfl, by decide +kernel, rfl, by decide +kernel, by decide +kernel⟩
abbrev s_is_prime : Stmt := top 12
theorem sc_is_prime : FnScope ["number", "k"] ["number"] (defScope s_is_prime) := ⟨rfl, rfl, rfl, by decide +kernel, rfl, by decide +kernel, by decide +kernel⟩
abbrev s_check_modulus : Stmt := top 13
theorem sc_check_modulus : FnScope ["p"] ["p"] (defScope s_check_modulus) := ⟨rfl, rfl, rfl, by decide +kernel, rfl, by decide +kernel, by decide +kernel⟩
abbrev s_power : Stmt := top 14
theorem sc_power : FnScope ["base", "exponent", "p", "result", "square"] ["base", "exponent", "p"] (defScope s_power) := ⟨rfl, rfl, rfl, by decide +kernel, rfl, by decide +kernel, by decide +kernel⟩
abbrev s_inverse : Stmt := top 15
theorem sc_inverse : FnScope ["number", "p"] ["number", "p"] (defScope s_inverse) := ⟨rfl, rfl, rfl, by decide +kernel, rfl, by decide +kernel, by decide +kernel⟩
abbrev s_is_number : Stmt := top 16
theorem sc_is_number : FnScope ["number", "p"] ["number", "p"] (defScope s_is_number) := ⟨rfl, rfl, rfl, by decide +kernel, rfl, by decide +kernel, by decide +kernel⟩
abbrev s_weights : Stmt := top 18
theorem sc_weights : FnScope ["many", "t", "p", "row", "k", "above", "below", "j"] ["many", "t", "p"] (defScope s_weights) := ⟨rfl, rfl, rfl, by decide +kernel, rfl, by decide +kernel, by decide +kernel⟩
abbrev s_value : Stmt := top 19
theorem sc_value : FnScope ["values", "t", "p", "total", "k", "weight"] ["values", "t", "p"] (defScope s_value) := ⟨rfl, rfl, rfl, by decide +kernel, rfl, by decide +kernel, by decide +kernel⟩
abbrev s_corners : Stmt := top 20
theorem sc_corners : FnScope ["values", "p"] ["values", "p"] (defScope s_corners) := ⟨rfl, rfl, rfl, by decide +kernel, rfl, by decide +kernel, by decide +kernel⟩
abbrev s_same : Stmt := top 21
theorem sc_same : FnScope ["values", "others", "p", "many", "t"] ["values", "others", "p"] (defScope s_same) := ⟨rfl, rfl, rfl, by decide +kernel, rfl, by decide +kernel, by decide +kernel⟩
abbrev s_SumAsker_init : Stmt := inClass (top 23) 0
theorem sc_SumAsker_init : FnScope ["self", "p", "claim", "degrees"] ["self", "p", "claim", "degrees"] (defScope s_SumAsker_init) := ⟨rfl, rfl, rfl, by decide +kernel, rfl, by decide +kernel, by decide +kernel⟩
abbrev s_SumAsker_is_done : Stmt := inClass (top 23) 1
theorem sc_SumAsker_is_done : FnScope ["self"] ["self"] (defScope s_SumAsker_is_done) := ⟨rfl, rfl, rfl, by decide +kernel, rfl, by decide +kernel, by decide +kernel⟩
abbrev s_SumAsker_accept : Stmt := inClass (top 23) 2
theorem sc_SumAsker_accept : FnScope ["self", "values", "number"] ["self", "values"] (defScope s_SumAsker_accept) := ⟨rfl, rfl, rfl, by decide +kernel, rfl, by decide +kernel, by decide +kernel⟩
abbrev s_SumAsker_throw : Stmt := inClass (top 23) 3
theorem sc_SumAsker_throw : FnScope ["self", "number"] ["self", "number"] (defScope s_SumAsker_throw) := ⟨rfl, rfl, rfl, by decide +kernel, rfl, by decide +kernel, by decide +kernel⟩
abbrev s_multiply : Stmt := top 26
theorem sc_multiply : FnScope ["left", "right", "sizes", "p", "a", "b", "c", "found", "j", "i", "k"] ["left", "right", "sizes", "p"] (defScope s_multiply) := ⟨rfl, rfl, rfl, by decide +kernel, rfl, by decide +kernel, by decide +kernel⟩
abbrev s_check_field : Stmt := top 27
theorem sc_check_field : FnScope ["p"] ["p"] (defScope s_check_field) := ⟨rfl, rfl, rfl, by decide +kernel, rfl, by decide +kernel, by decide +kernel⟩
abbrev s_check_sizes : Stmt := top 28
theorem sc_check_sizes : FnScope ["sizes", "p", "a", "b", "c"] ["sizes", "p"] (defScope s_check_sizes) := ⟨rfl, rfl, rfl, by decide +kernel, rfl, by decide +kernel, by decide +kernel⟩
abbrev s_check_matrix : Stmt := top 29
theorem sc_check_matrix : FnScope ["table", "bits", "p", "number"] ["table", "bits", "p"] (defScope s_check_matrix) := ⟨rfl, rfl, rfl, by decide +kernel, rfl, by decide +kernel, by decide +kernel⟩
abbrev s_ProductTurn_init : Stmt := inClass (top 30) 0
theorem sc_ProductTurn_init : FnScope ["self", "p", "sizes", "point", "claim"] ["self", "p", "sizes", "point", "claim"] (defScope s_ProductTurn_init) := ⟨rfl, rfl, rfl, by decide +kernel, rfl, by decide +kernel, by decide +kernel⟩
abbrev s_ProductTurn_accept_pair : Stmt := inClass (top 30) 1
theorem sc_ProductTurn_accept_pair : FnScope ["self", "values", "middle", "number"] ["self", "values"] (defScope s_ProductTurn_accept_pair) := ⟨rfl, rfl, rfl, by decide +kernel, rfl, by decide +kernel, by decide +kernel⟩
abbrev s_ProductAnswerer_init : Stmt := inClass (top 31) 0
theorem sc_ProductAnswerer_init : FnScope ["self", "p", "left", "right", "sizes", "point", "a", "b", "c", "number", "near", "k", "j"] ["self", "p", "left", "right", "sizes", "point"] (defScope s_ProductAnswerer_init) := ⟨rfl, rfl, rfl, by decide +kernel, rfl, by decide +kernel, by decide +kernel⟩
abbrev s_ProductAnswerer_poly : Stmt := inClass (top 31) 1
theorem sc_ProductAnswerer_poly : FnScope ["self", "found", "t", "first", "second", "one", "other"] ["self"] (defScope s_ProductAnswerer_poly) := ⟨rfl, rfl, rfl, by decide +kernel, rfl, by decide +kernel, by decide +kernel⟩
abbrev s_ProductAnswerer_throw : Stmt := inClass (top 31) 2
theorem sc_ProductAnswerer_throw : FnScope ["self", "number"] ["self", "number"] (defScope s_ProductAnswerer_throw) := ⟨rfl, rfl, rfl, by decide +kernel, rfl, by decide +kernel, by decide +kernel⟩
abbrev s_ProductAnswerer_pair : Stmt := inClass (top 31) 3
theorem sc_ProductAnswerer_pair : FnScope ["self"] ["self"] (defScope s_ProductAnswerer_pair) := ⟨rfl, rfl, rfl, by decide +kernel, rfl, by decide +kernel, by decide +kernel⟩
abbrev s_product_throws : Stmt := top 32
theorem sc_product_throws : FnScope ["sizes"] ["sizes"] (defScope s_product_throws) := ⟨rfl, rfl, rfl, by decide +kernel, rfl, by decide +kernel, by decide +kernel⟩
abbrev s_product_share : Stmt := top 33
theorem sc_product_share : FnScope ["sizes"] ["sizes"] (defScope s_product_share) := ⟨rfl, rfl, rfl, by decide +kernel, rfl, by decide +kernel, by decide +kernel⟩
abbrev s_check_talk : Stmt := top 34
theorem sc_check_talk : FnScope ["many", "rounds", "throws", "polynomials", "p", "number"] ["many", "rounds", "throws", "polynomials", "p"] (defScope s_check_talk) := ⟨rfl, rfl, rfl, by decide +kernel, rfl, by decide +kernel, by decide +kernel⟩
abbrev s_ask_product : Stmt := top 35
theorem sc_ask_product : FnScope ["turn", "polynomials", "pair", "throws", "k", "number"] ["turn", "polynomials", "pair", "throws"] (defScope s_ask_product) := ⟨rfl, rfl, rfl, by decide +kernel, rfl, by decide +kernel, by decide +kernel⟩
abbrev s_judge_product : Stmt := top 36
theorem sc_judge_product : FnScope ["left", "right", "claimed", "sizes", "throws", "told", "p", "a", "b", "c", "point", "turn", "step", "k", "table"] ["left", "right", "claimed", "sizes", "throws", "told", "p"] (defScope s_judge_product) := ⟨rfl, rfl, rfl, by decide +kernel, rfl, by decide +kernel, by decide +kernel⟩
abbrev s_round_agreement : Stmt := top 37
theorem sc_round_agreement : FnScope ["answerer", "polynomials", "throws", "p", "k", "number", "mine"] ["answerer", "polynomials", "throws", "p"] (defScope s_round_agreement) := ⟨rfl, rfl, rfl, by decide +kernel, rfl, by decide +kernel, by decide +kernel⟩
abbrev s_blame_product : Stmt := top 38
theorem sc_blame_product : FnScope ["left", "right", "claimed", "sizes", "throws", "told", "p", "true", "first", "answerer"] ["left", "right", "claimed", "sizes", "throws", "told", "p"] (defScope s_blame_product) := ⟨rfl, rfl, rfl, by decide +kernel, rfl, by decide +kernel, by decide +kernel⟩
abbrev s__law_state : Stmt := top 40
theorem sc__law_state : FnScope ["_law_script", "_law_seed", "_law_cell"] ["_law_script"] (defScope s__law_state) := ⟨rfl, rfl, rfl, by decide +kernel, rfl, by decide +kernel, by decide +kernel⟩
abbrev s__law_draw : Stmt := top 41
theorem sc__law_draw : FnScope ["_law_state_here", "_law_many", "_law_cells", "_law_mixed", "_law_number"] ["_law_state_here", "_law_many"] (defScope s__law_draw) := ⟨rfl, rfl, rfl, by decide +kernel, rfl, by decide +kernel, by decide +kernel⟩
abbrev s__law_pick : Stmt := top 42
theorem sc__law_pick : FnScope ["_law_state_here", "_law_row"] ["_law_state_here", "_law_row"] (defScope s__law_pick) := ⟨rfl, rfl, rfl, by decide +kernel, rfl, by decide +kernel, by decide +kernel⟩
abbrev s__law_corner : Stmt := top 43
theorem sc__law_corner : FnScope ["_law_index", "_law_bits", "_law_k"] ["_law_index", "_law_bits"] (defScope s__law_corner) := ⟨rfl, rfl, rfl, by decide +kernel, rfl, by decide +kernel, by decide +kernel⟩
abbrev s__law_near : Stmt := top 44
theorem sc__law_near : FnScope ["_law_one", "_law_two", "_law_p", "_law_found", "_law_k"] ["_law_one", "_law_two", "_law_p"] (defScope s__law_near) := ⟨rfl, rfl, rfl, by decide +kernel, rfl, by decide +kernel, by decide +kernel⟩
abbrev s__law_value : Stmt := top 45
theorem sc__law_value : FnScope ["_law_table_here", "_law_point", "_law_p", "_law_total", "_law_k"] ["_law_table_here", "_law_point", "_law_p"] (defScope s__law_value) := ⟨rfl, rfl, rfl, by decide +kernel, rfl, by decide +kernel, by decide +kernel⟩
abbrev s__law_times : Stmt := top 46
theorem sc__law_times : FnScope ["_law_left", "_law_right", "_law_sizes", "_law_p", "_law_a", "_law_b", "_law_c", "_law_found", "_law_i", "_law_j", "_law_k", "_law_total"] ["_law_left", "_law_right", "_law_sizes", "_law_p"] (defScope s__law_times) := ⟨rfl, rfl, rfl, by decide +kernel, rfl, by decide +kernel, by decide +kernel⟩
abbrev s__law_table : Stmt := top 47
theorem sc__law_table : FnScope ["_law_state_here", "_law_bits", "_law_p", "_law_most", "_law_k"] ["_law_state_here", "_law_bits", "_law_p"] (defScope s__law_table) := ⟨rfl, rfl, rfl, by decide +kernel, rfl, by decide +kernel, by decide +kernel⟩
abbrev s__law_at : Stmt := top 48
theorem sc__law_at : FnScope ["_law_values", "_law_t", "_law_p", "_law_first", "_law_second", "_law_third", "_law_half", "_law_total"] ["_law_values", "_law_t", "_law_p"] (defScope s__law_at) := ⟨rfl, rfl, rfl, by decide +kernel, rfl, by decide +kernel, by decide +kernel⟩
abbrev s__law_inverse : Stmt := top 49
theorem sc__law_inverse : FnScope ["_law_number", "_law_p", "_law_k"] ["_law_number", "_law_p"] (defScope s__law_inverse) := ⟨rfl, rfl, rfl, by decide +kernel, rfl, by decide +kernel, by decide +kernel⟩
abbrev s__law_bluff : Stmt := top 50
theorem sc__law_bluff : FnScope ["_law_state_here", "_law_mine", "_law_claim", "_law_guess", "_law_p", "_law_lack", "_law_half", "_law_more", "_law_rest", "_law_k"] ["_law_state_here", "_law_mine", "_law_claim", "_law_guess", "_law_p"] (defScope s__law_bluff) := ⟨rfl, rfl, rfl, by decide +kernel, rfl, by decide +kernel, by decide +kernel⟩
abbrev s__law_pair : Stmt := top 51
theorem sc__law_pair : FnScope ["_law_mine", "_law_claim", "_law_p", "_law_u", "_law_v"] ["_law_mine", "_law_claim", "_law_p"] (defScope s__law_pair) := ⟨rfl, rfl, rfl, by decide +kernel, rfl, by decide +kernel, by decide +kernel⟩
abbrev s__law_talk : Stmt := top 52
theorem sc__law_talk : FnScope ["_law_state_here", "_law_left", "_law_right", "_law_claimed", "_law_sizes", "_law_throws", "_law_p", "_law_seed", "_law_a", "_law_b", "_law_c", "_law_point", "_law_true", "_law_claim", "_law_place", "_law_answerer", "_law_sent", "_law_k", "_law_mine", "_law_pair_here", "_law_due", "_law_number", "_law_guess", "_law_j"] ["_law_state_here", "_law_left", "_law_right", "_law_claimed", "_law_sizes", "_law_throws", "_law_p", "_law_seed"] (defScope s__law_talk) := ⟨rfl, rfl, rfl, by decide +kernel, rfl, by decide +kernel, by decide +kernel⟩
abbrev s__law_small : Stmt := top 53
theorem sc__law_small : FnScope ["_law_state_here", "_law_p", "_law_sizes", "_law_a", "_law_b", "_law_c", "_law_left", "_law_right", "_law_claimed", "_law_at_here", "_law_seed", "_law_many", "_law_count", "_law_index", "_law_throws", "_law_told", "_law_due", "_law_place", "_law_result", "_law_k"] ["_law_state_here"] (defScope s__law_small) := ⟨rfl, rfl, rfl, by decide +kernel, rfl, by decide +kernel, by decide +kernel⟩
abbrev s_law : Stmt := top 54
theorem sc_law : FnScope ["_law_script", "_law_state_here", "_law_p", "_law_sizes", "_law_a", "_law_b", "_law_c", "_law_left", "_law_right", "_law_claimed", "_law_turn", "_law_k", "_law_throws", "_law_told", "_law_due", "_law_place", "_law_before"] ["_law_script"] (defScope s_law) := ⟨rfl, rfl, rfl, by decide +kernel, rfl, by decide +kernel, by decide +kernel⟩
structure Txt (K : PySem.W.Frag) (mg : Str → Option Value) : Prop where
  d_point_table : DefT K mg "point_table" s_point_table ["point", "p"]
  d_value_at : DefT K mg "value_at" s_value_at ["table", "point", "p"]
  d_fold : DefT K mg "fold" s_fold ["table", "number", "p"]
  d_is_prime : DefT K mg "is_prime" s_is_prime ["number"]
  d_check_modulus : DefT K mg "check_modulus" s_check_modulus ["p"]
  d_power : DefT K mg "power" s_power ["base", "exponent", "p"]
  d_inverse : DefT K mg "inverse" s_inverse ["number", "p"]
  d_is_number : DefT K mg "is_number" s_is_number ["number", "p"]
  d_weights : DefT K mg "weights" s_weights ["many", "t", "p"]
  d_value : DefT K mg "value" s_value ["values", "t", "p"]
  d_corners : DefT K mg "corners" s_corners ["values", "p"]
  d_same : DefT K mg "same" s_same ["values", "others", "p"]
  d_multiply : DefT K mg "multiply" s_multiply ["left", "right", "sizes", "p"]
  d_check_field : DefT K mg "check_field" s_check_field ["p"]
  d_check_sizes : DefT K mg "check_sizes" s_check_sizes ["sizes", "p"]
  d_check_matrix : DefT K mg "check_matrix" s_check_matrix ["table", "bits", "p"]
  d_product_throws : DefT K mg "product_throws" s_product_throws ["sizes"]
  d_product_share : DefT K mg "product_share" s_product_share ["sizes"]
  d_check_talk : DefT K mg "check_talk" s_check_talk ["many", "rounds", "throws", "polynomials", "p"]
  d_ask_product : DefT K mg "ask_product" s_ask_product ["turn", "polynomials", "pair", "throws"]
  d_judge_product : DefT K mg "judge_product" s_judge_product ["left", "right", "claimed", "sizes", "throws", "told", "p"]
  d_round_agreement : DefT K mg "round_agreement" s_round_agreement ["answerer", "polynomials", "throws", "p"]
  d_blame_product : DefT K mg "blame_product" s_blame_product ["left", "right", "claimed", "sizes", "throws", "told", "p"]
  d__law_state : DefT K mg "_law_state" s__law_state ["_law_script"]
  d__law_draw : DefT K mg "_law_draw" s__law_draw ["_law_state_here", "_law_many"]
  d__law_pick : DefT K mg "_law_pick" s__law_pick ["_law_state_here", "_law_row"]
  d__law_corner : DefT K mg "_law_corner" s__law_corner ["_law_index", "_law_bits"]
  d__law_near : DefT K mg "_law_near" s__law_near ["_law_one", "_law_two", "_law_p"]
  d__law_value : DefT K mg "_law_value" s__law_value ["_law_table_here", "_law_point", "_law_p"]
  d__law_times : DefT K mg "_law_times" s__law_times ["_law_left", "_law_right", "_law_sizes", "_law_p"]
  d__law_table : DefT K mg "_law_table" s__law_table ["_law_state_here", "_law_bits", "_law_p"]
  d__law_at : DefT K mg "_law_at" s__law_at ["_law_values", "_law_t", "_law_p"]
  d__law_inverse : DefT K mg "_law_inverse" s__law_inverse ["_law_number", "_law_p"]
  d__law_bluff : DefT K mg "_law_bluff" s__law_bluff ["_law_state_here", "_law_mine", "_law_claim", "_law_guess", "_law_p"]
  d__law_pair : DefT K mg "_law_pair" s__law_pair ["_law_mine", "_law_claim", "_law_p"]
  d__law_talk : DefT K mg "_law_talk" s__law_talk ["_law_state_here", "_law_left", "_law_right", "_law_claimed", "_law_sizes", "_law_throws", "_law_p", "_law_seed"]
  d__law_small : DefT K mg "_law_small" s__law_small ["_law_state_here"]
  d_law : DefT K mg "law" s_law ["_law_script"]
  mi_SumAsker : IniT K mg "SumAsker" "SumAsker.__init__" s_SumAsker_init ["self", "p", "claim", "degrees"]
  mi_ProductTurn : IniT K mg "ProductTurn" "ProductTurn.__init__" s_ProductTurn_init ["self", "p", "sizes", "point", "claim"]
  mi_ProductAnswerer : IniT K mg "ProductAnswerer" "ProductAnswerer.__init__" s_ProductAnswerer_init ["self", "p", "left", "right", "sizes", "point"]
  mm_ProductAnswerer_pair : MthT K "ProductAnswerer" "pair" "ProductAnswerer.pair" s_ProductAnswerer_pair ["self"]
  mm_ProductAnswerer_poly : MthT K "ProductAnswerer" "poly" "ProductAnswerer.poly" s_ProductAnswerer_poly ["self"]
  mm_ProductAnswerer_throw : MthT K "ProductAnswerer" "throw" "ProductAnswerer.throw" s_ProductAnswerer_throw ["self", "number"]
  mm_ProductTurn_accept_pair : MthT K "ProductTurn" "accept_pair" "ProductTurn.accept_pair" s_ProductTurn_accept_pair ["self", "values"]
  mm_SumAsker_accept : MthT K "SumAsker" "accept" "SumAsker.accept" s_SumAsker_accept ["self", "values"]
  mm_SumAsker_is_done : MthT K "SumAsker" "is_done" "SumAsker.is_done" s_SumAsker_is_done ["self"]
  mm_SumAsker_throw : MthT K "SumAsker" "throw" "SumAsker.throw" s_SumAsker_throw ["self", "number"]
  f_claim : FldT K ["SumAsker"] "claim"
  f_claims : FldT K ["ProductTurn"] "claims"
  f_column_point : FldT K ["ProductTurn"] "column_point"
  f_degrees : FldT K ["SumAsker"] "degrees"
  f_first : FldT K ["ProductAnswerer"] "first"
  f_p : FldT K ["SumAsker", "ProductTurn", "ProductAnswerer"] "p"
  f_points : FldT K ["ProductTurn"] "points"
  f_row_point : FldT K ["ProductTurn"] "row_point"
  f_second : FldT K ["ProductAnswerer"] "second"
  f_sent : FldT K ["SumAsker"] "sent"
  f_sums : FldT K ["ProductTurn"] "sums"
  f_throws : FldT K ["SumAsker"] "throws"
  k_MOST : ∃ t, mg "MOST" = some (.int 2147483647 t)
  k_MOST_BITS : ∃ t, mg "MOST_BITS" = some (.int 12 t)
  n_abs : mg "abs" = none
  n_all : mg "all" = none
  n_enumerate : mg "enumerate" = none
  n_int : mg "int" = none
  n_len : mg "len" = none
  n_list : mg "list" = none
  n_max : mg "max" = none
  n_range : mg "range" = none
  n_repr : mg "repr" = none
  n_sum : mg "sum" = none
  n_zip : mg "zip" = none
  e_FieldError : ErrT K mg "FieldError" "FieldError.__init__" s_FieldError_init ["self", "number"] ["number"]
  i_FieldError : InitB K mg "LayeraskError"
  e_CircuitError : ErrT K mg "CircuitError" "CircuitError.__init__" s_CircuitError_init ["self", "part"] ["part"]
  i_CircuitError : InitB K mg "LayeraskError"
  e_TalkError : ErrT K mg "TalkError" "TalkError.__init__" s_TalkError_init ["self", "step"] ["step"]
  i_TalkError : InitB K mg "LayeraskError"
  e_SizeError : ErrT K mg "SizeError" "SizeError.__init__" s_SizeError_init ["self", "limit"] ["limit"]
  i_SizeError : InitB K mg "LayeraskError"
def nm0 : List PySem.Str := ["__name__", "point_table", "value_at", "fold", "LayeraskError", "FieldError", "CircuitError", "TalkError", "SizeError", "MOST", "is_prime", "check_modulus", "power", "inverse", "is_number", "weights", "value", "corners", "same", "SumAsker", "MOST_BITS", "multiply", "check_field", "check_sizes", "check_matrix", "ProductTurn", "ProductAnswerer", "product_throws", "product_share", "check_talk"]
def nm1 : List PySem.Str := ["ask_product", "judge_product", "round_agreement", "blame_product", "_law_state", "_law_draw", "_law_pick", "_law_corner", "_law_near", "_law_value", "_law_times", "_law_table", "_law_at", "_law_inverse", "_law_bluff", "_law_pair", "_law_talk", "_law_small"]
def fa0 : List He.Fa := [.glo (PySem.Str.ofString "SumAsker"),
  .mkr (PySem.Str.ofString "SumAsker"),
  .meth (PySem.Str.ofString "SumAsker") "__init__",
  .glo (PySem.Str.ofString "ProductTurn"),
  .mkr (PySem.Str.ofString "ProductTurn"),
  .meth (PySem.Str.ofString "ProductTurn") "__init__",
  .glo (PySem.Str.ofString "ProductAnswerer"),
  .mkr (PySem.Str.ofString "ProductAnswerer"),
  .meth (PySem.Str.ofString "ProductAnswerer") "__init__",
  .cls (PySem.Str.ofString "ProductAnswerer"),
  .meth (PySem.Str.ofString "ProductAnswerer") (PySem.Str.ofString "pair"),
  .meth (PySem.Str.ofString "ProductAnswerer") (PySem.Str.ofString "poly"),
  .meth (PySem.Str.ofString "ProductAnswerer") (PySem.Str.ofString "throw"),
  .cls (PySem.Str.ofString "ProductTurn"),
  .meth (PySem.Str.ofString "ProductTurn") (PySem.Str.ofString "accept_pair"),
  .cls (PySem.Str.ofString "SumAsker"),
  .meth (PySem.Str.ofString "SumAsker") (PySem.Str.ofString "accept"),
  .meth (PySem.Str.ofString "SumAsker") (PySem.Str.ofString "is_done"),
  .meth (PySem.Str.ofString "SumAsker") (PySem.Str.ofString "throw"),
  .noat (PySem.Str.ofString "SumAsker") (PySem.Str.ofString "claim")]
def fa1 : List He.Fa := [.noat (PySem.Str.ofString "ProductTurn") (PySem.Str.ofString "claims"),
  .noat (PySem.Str.ofString "ProductTurn") (PySem.Str.ofString "column_point"),
  .noat (PySem.Str.ofString "SumAsker") (PySem.Str.ofString "degrees"),
  .noat (PySem.Str.ofString "ProductAnswerer") (PySem.Str.ofString "first"),
  .noat (PySem.Str.ofString "ProductAnswerer") (PySem.Str.ofString "p"),
  .noat (PySem.Str.ofString "ProductTurn") (PySem.Str.ofString "p"),
  .noat (PySem.Str.ofString "SumAsker") (PySem.Str.ofString "p"),
  .noat (PySem.Str.ofString "ProductTurn") (PySem.Str.ofString "points"),
  .noat (PySem.Str.ofString "ProductTurn") (PySem.Str.ofString "row_point"),
  .noat (PySem.Str.ofString "ProductAnswerer") (PySem.Str.ofString "second"),
  .noat (PySem.Str.ofString "SumAsker") (PySem.Str.ofString "sent"),
  .noat (PySem.Str.ofString "ProductTurn") (PySem.Str.ofString "sums"),
  .noat (PySem.Str.ofString "SumAsker") (PySem.Str.ofString "throws"),
  .glo "point_table",
  .keep "point_table",
  .glo "value_at",
  .keep "value_at",
  .glo "fold",
  .keep "fold",
  .glo "is_prime"]
def fa2 : List He.Fa := [.keep "is_prime",
  .glo "check_modulus",
  .keep "check_modulus",
  .glo "power",
  .keep "power",
  .glo "inverse",
  .keep "inverse",
  .glo "is_number",
  .keep "is_number",
  .glo "weights",
  .keep "weights",
  .glo "value",
  .keep "value",
  .glo "corners",
  .keep "corners",
  .glo "same",
  .keep "same",
  .glo "multiply",
  .keep "multiply",
  .glo "check_field"]
def fa3 : List He.Fa := [.keep "check_field",
  .glo "check_sizes",
  .keep "check_sizes",
  .glo "check_matrix",
  .keep "check_matrix",
  .glo "product_throws",
  .keep "product_throws",
  .glo "product_share",
  .keep "product_share",
  .glo "check_talk",
  .keep "check_talk",
  .glo "ask_product",
  .keep "ask_product",
  .glo "judge_product",
  .keep "judge_product",
  .glo "round_agreement",
  .keep "round_agreement",
  .glo "blame_product",
  .keep "blame_product",
  .glo "_law_state"]
def fa4 : List He.Fa := [.keep "_law_state",
  .glo "_law_draw",
  .keep "_law_draw",
  .glo "_law_pick",
  .keep "_law_pick",
  .glo "_law_corner",
  .keep "_law_corner",
  .glo "_law_near",
  .keep "_law_near",
  .glo "_law_value",
  .keep "_law_value",
  .glo "_law_times",
  .keep "_law_times",
  .glo "_law_table",
  .keep "_law_table",
  .glo "_law_at",
  .keep "_law_at",
  .glo "_law_inverse",
  .keep "_law_inverse",
  .glo "_law_bluff"]
def fa5 : List He.Fa := [.keep "_law_bluff",
  .glo "_law_pair",
  .keep "_law_pair",
  .glo "_law_talk",
  .keep "_law_talk",
  .glo "_law_small",
  .keep "_law_small",
  .glo "law",
  .keep "law",
  .int "MOST" 2147483647,
  .int "MOST_BITS" 12,
  .free "abs",
  .free "all",
  .free "enumerate",
  .free "int",
  .free "len",
  .free "list",
  .free "max",
  .free "range",
  .free "repr"]
def fa6 : List He.Fa := [.free "sum",
  .free "zip"]
def fn0 : List He.FnD := [⟨((PySem.Str.ofString "SumAsker"), some "__init__"), "__init__", "SumAsker.__init__", defArgs s_SumAsker_init, defBody s_SumAsker_init, defScope s_SumAsker_init⟩,
  ⟨((PySem.Str.ofString "ProductTurn"), some "__init__"), "__init__", "ProductTurn.__init__", defArgs s_ProductTurn_init, defBody s_ProductTurn_init, defScope s_ProductTurn_init⟩,
  ⟨((PySem.Str.ofString "ProductAnswerer"), some "__init__"), "__init__", "ProductAnswerer.__init__", defArgs s_ProductAnswerer_init, defBody s_ProductAnswerer_init, defScope s_ProductAnswerer_init⟩,
  ⟨((PySem.Str.ofString "ProductAnswerer"), some (PySem.Str.ofString "pair")), (PySem.Str.ofString "pair"), "ProductAnswerer.pair", defArgs s_ProductAnswerer_pair, defBody s_ProductAnswerer_pair, defScope s_ProductAnswerer_pair⟩,
  ⟨((PySem.Str.ofString "ProductAnswerer"), some (PySem.Str.ofString "poly")), (PySem.Str.ofString "poly"), "ProductAnswerer.poly", defArgs s_ProductAnswerer_poly, defBody s_ProductAnswerer_poly, defScope s_ProductAnswerer_poly⟩,
  ⟨((PySem.Str.ofString "ProductAnswerer"), some (PySem.Str.ofString "throw")), (PySem.Str.ofString "throw"), "ProductAnswerer.throw", defArgs s_ProductAnswerer_throw, defBody s_ProductAnswerer_throw, defScope s_ProductAnswerer_throw⟩,
  ⟨((PySem.Str.ofString "ProductTurn"), some (PySem.Str.ofString "accept_pair")), (PySem.Str.ofString "accept_pair"), "ProductTurn.accept_pair", defArgs s_ProductTurn_accept_pair, defBody s_ProductTurn_accept_pair, defScope s_ProductTurn_accept_pair⟩,
  ⟨((PySem.Str.ofString "SumAsker"), some (PySem.Str.ofString "accept")), (PySem.Str.ofString "accept"), "SumAsker.accept", defArgs s_SumAsker_accept, defBody s_SumAsker_accept, defScope s_SumAsker_accept⟩,
  ⟨((PySem.Str.ofString "SumAsker"), some (PySem.Str.ofString "is_done")), (PySem.Str.ofString "is_done"), "SumAsker.is_done", defArgs s_SumAsker_is_done, defBody s_SumAsker_is_done, defScope s_SumAsker_is_done⟩,
  ⟨((PySem.Str.ofString "SumAsker"), some (PySem.Str.ofString "throw")), (PySem.Str.ofString "throw"), "SumAsker.throw", defArgs s_SumAsker_throw, defBody s_SumAsker_throw, defScope s_SumAsker_throw⟩,
  ⟨("point_table", none), "point_table", "point_table", defArgs s_point_table, defBody s_point_table, defScope s_point_table⟩,
  ⟨("value_at", none), "value_at", "value_at", defArgs s_value_at, defBody s_value_at, defScope s_value_at⟩,
  ⟨("fold", none), "fold", "fold", defArgs s_fold, defBody s_fold, defScope s_fold⟩,
  ⟨("is_prime", none), "is_prime", "is_prime", defArgs s_is_prime, defBody s_is_prime, defScope s_is_prime⟩,
  ⟨("check_modulus", none), "check_modulus", "check_modulus", defArgs s_check_modulus, defBody s_check_modulus, defScope s_check_modulus⟩,
  ⟨("power", none), "power", "power", defArgs s_power, defBody s_power, defScope s_power⟩,
  ⟨("inverse", none), "inverse", "inverse", defArgs s_inverse, defBody s_inverse, defScope s_inverse⟩,
  ⟨("is_number", none), "is_number", "is_number", defArgs s_is_number, defBody s_is_number, defScope s_is_number⟩,
  ⟨("weights", none), "weights", "weights", defArgs s_weights, defBody s_weights, defScope s_weights⟩,
  ⟨("value", none), "value", "value", defArgs s_value, defBody s_value, defScope s_value⟩]
def fn1 : List He.FnD := [⟨("corners", none), "corners", "corners", defArgs s_corners, defBody s_corners, defScope s_corners⟩,
  ⟨("same", none), "same", "same", defArgs s_same, defBody s_same, defScope s_same⟩,
  ⟨("multiply", none), "multiply", "multiply", defArgs s_multiply, defBody s_multiply, defScope s_multiply⟩,
  ⟨("check_field", none), "check_field", "check_field", defArgs s_check_field, defBody s_check_field, defScope s_check_field⟩,
  ⟨("check_sizes", none), "check_sizes", "check_sizes", defArgs s_check_sizes, defBody s_check_sizes, defScope s_check_sizes⟩,
  ⟨("check_matrix", none), "check_matrix", "check_matrix", defArgs s_check_matrix, defBody s_check_matrix, defScope s_check_matrix⟩,
  ⟨("product_throws", none), "product_throws", "product_throws", defArgs s_product_throws, defBody s_product_throws, defScope s_product_throws⟩,
  ⟨("product_share", none), "product_share", "product_share", defArgs s_product_share, defBody s_product_share, defScope s_product_share⟩,
  ⟨("check_talk", none), "check_talk", "check_talk", defArgs s_check_talk, defBody s_check_talk, defScope s_check_talk⟩,
  ⟨("ask_product", none), "ask_product", "ask_product", defArgs s_ask_product, defBody s_ask_product, defScope s_ask_product⟩,
  ⟨("judge_product", none), "judge_product", "judge_product", defArgs s_judge_product, defBody s_judge_product, defScope s_judge_product⟩,
  ⟨("round_agreement", none), "round_agreement", "round_agreement", defArgs s_round_agreement, defBody s_round_agreement, defScope s_round_agreement⟩,
  ⟨("blame_product", none), "blame_product", "blame_product", defArgs s_blame_product, defBody s_blame_product, defScope s_blame_product⟩,
  ⟨("_law_state", none), "_law_state", "_law_state", defArgs s__law_state, defBody s__law_state, defScope s__law_state⟩,
  ⟨("_law_draw", none), "_law_draw", "_law_draw", defArgs s__law_draw, defBody s__law_draw, defScope s__law_draw⟩,
  ⟨("_law_pick", none), "_law_pick", "_law_pick", defArgs s__law_pick, defBody s__law_pick, defScope s__law_pick⟩,
  ⟨("_law_corner", none), "_law_corner", "_law_corner", defArgs s__law_corner, defBody s__law_corner, defScope s__law_corner⟩,
  ⟨("_law_near", none), "_law_near", "_law_near", defArgs s__law_near, defBody s__law_near, defScope s__law_near⟩,
  ⟨("_law_value", none), "_law_value", "_law_value", defArgs s__law_value, defBody s__law_value, defScope s__law_value⟩,
  ⟨("_law_times", none), "_law_times", "_law_times", defArgs s__law_times, defBody s__law_times, defScope s__law_times⟩]
def fn2 : List He.FnD := [⟨("_law_table", none), "_law_table", "_law_table", defArgs s__law_table, defBody s__law_table, defScope s__law_table⟩,
  ⟨("_law_at", none), "_law_at", "_law_at", defArgs s__law_at, defBody s__law_at, defScope s__law_at⟩,
  ⟨("_law_inverse", none), "_law_inverse", "_law_inverse", defArgs s__law_inverse, defBody s__law_inverse, defScope s__law_inverse⟩,
  ⟨("_law_bluff", none), "_law_bluff", "_law_bluff", defArgs s__law_bluff, defBody s__law_bluff, defScope s__law_bluff⟩,
  ⟨("_law_pair", none), "_law_pair", "_law_pair", defArgs s__law_pair, defBody s__law_pair, defScope s__law_pair⟩,
  ⟨("_law_talk", none), "_law_talk", "_law_talk", defArgs s__law_talk, defBody s__law_talk, defScope s__law_talk⟩,
  ⟨("_law_small", none), "_law_small", "_law_small", defArgs s__law_small, defBody s__law_small, defScope s__law_small⟩,
  ⟨("law", none), "law", "law", defArgs s_law, defBody s_law, defScope s_law⟩,
  ⟨((PySem.Str.ofString "FieldError"), some "__init__"), "__init__", "FieldError.__init__", defArgs s_FieldError_init, defBody s_FieldError_init, defScope s_FieldError_init⟩,
  ⟨((PySem.Str.ofString "CircuitError"), some "__init__"), "__init__", "CircuitError.__init__", defArgs s_CircuitError_init, defBody s_CircuitError_init, defScope s_CircuitError_init⟩,
  ⟨((PySem.Str.ofString "TalkError"), some "__init__"), "__init__", "TalkError.__init__", defArgs s_TalkError_init, defBody s_TalkError_init, defScope s_TalkError_init⟩,
  ⟨((PySem.Str.ofString "SizeError"), some "__init__"), "__init__", "SizeError.__init__", defArgs s_SizeError_init, defBody s_SizeError_init, defScope s_SizeError_init⟩]
def ck0 : List (PySem.W.Frag → Bool) := [errB "FieldError" ["number"],
  initBB "LayeraskError",
  errB "CircuitError" ["part"],
  errB "TalkError" ["step"],
  errB "SizeError" ["limit"]]
def names : List PySem.Str := nm0 ++ nm1
def fa : List He.Fa := fa0 ++ fa1 ++ fa2 ++ fa3 ++ fa4 ++ fa5 ++ fa6
def fn : List He.FnD := fn0 ++ fn1 ++ fn2
def ck : List (PySem.W.Frag → Bool) := ck0
abbrev R : PySem.W.OpenRow := PySem.W.OpenLaw.row PySem.Challenge.rw_layerask_k87_whole_false_products_are_bl
abbrev hk : PySem.W.Hook := hookM 1500 fa fn ck
def ob (s : PySem.W.SharedT) : AlM := obsMG 1500 fa fn ck (HandSHeadRun.getT s)
theorem ob_eq (s : PySem.W.SharedT) : ob s = hk.obs s.abs := obsMG_eq (HandSHeadRun.getT_eq s)
theorem runA (w : World) : ∀ os, (endK R 20000 w os).map (lookK R w) = some true := by
  intro os
  kernel_rfl
theorem runB (w : World) : ∀ os, (endK R 20000 w os).map (seenK R (PySem.W.view R.prog [54]) names) = some (PySem.W.openGood (PySem.W.view R.prog [54]) names) := by
  intro os
  kernel_rfl
theorem runC1 (w : World) : ∀ os, (endK R 20000 w os).map (fun s => obsMG 1500 fa [] ck (HandSHeadRun.getT s)) = some ((true, []), true) := by
  intro os
  kernel_rfl
theorem runC2 (w : World) : ∀ os, (endK R 20000 w os).map (fun s => obsMG 1500 [] fn [] (HandSHeadRun.getT s)) = some (He.valE fn, true) := by
  intro os
  kernel_rfl
theorem run (w : World) : HandSHeadRun.RunEq R (PySem.W.view R.prog [54]) hk ob 20000 names w := runEq_of (runA w) (runB w) (runC_of (runC1 w) (runC2 w))
theorem he_txt {K : PySem.W.Frag} {h : Heap} {mg : Str → Option Value} (X : K.In h) (G : h.Ns mainGlobals mg) (c : SaysM fa fn ck K) : Txt K mg := {
  mi_SumAsker := iniT_he X G c 0 0 1 2 rfl rfl rfl rfl (fun _ _ _ _ _ _ us hl => match us, hl with | [_, _, _, _], _ => rfl)
  mi_ProductTurn := iniT_he X G c 1 3 4 5 rfl rfl rfl rfl (fun _ _ _ _ _ _ us hl => match us, hl with | [_, _, _, _, _], _ => rfl)
  mi_ProductAnswerer := iniT_he X G c 2 6 7 8 rfl rfl rfl rfl (fun _ _ _ _ _ _ us hl => match us, hl with | [_, _, _, _, _, _], _ => rfl)
  mm_ProductAnswerer_pair := mthT_he c 3 9 10 rfl rfl rfl (fun _ _ _ _ _ _ us hl => match us, hl with | [_], _ => rfl)
  mm_ProductAnswerer_poly := mthT_he c 4 9 11 rfl rfl rfl (fun _ _ _ _ _ _ us hl => match us, hl with | [_], _ => rfl)
  mm_ProductAnswerer_throw := mthT_he c 5 9 12 rfl rfl rfl (fun _ _ _ _ _ _ us hl => match us, hl with | [_, _], _ => rfl)
  mm_ProductTurn_accept_pair := mthT_he c 6 13 14 rfl rfl rfl (fun _ _ _ _ _ _ us hl => match us, hl with | [_, _], _ => rfl)
  mm_SumAsker_accept := mthT_he c 7 15 16 rfl rfl rfl (fun _ _ _ _ _ _ us hl => match us, hl with | [_, _], _ => rfl)
  mm_SumAsker_is_done := mthT_he c 8 15 17 rfl rfl rfl (fun _ _ _ _ _ _ us hl => match us, hl with | [_], _ => rfl)
  mm_SumAsker_throw := mthT_he c 9 15 18 rfl rfl rfl (fun _ _ _ _ _ _ us hl => match us, hl with | [_, _], _ => rfl)
  f_claim := (fldT_he c 15 19 rfl rfl fldT_nil)
  f_claims := (fldT_he c 13 20 rfl rfl fldT_nil)
  f_column_point := (fldT_he c 13 21 rfl rfl fldT_nil)
  f_degrees := (fldT_he c 15 22 rfl rfl fldT_nil)
  f_first := (fldT_he c 9 23 rfl rfl fldT_nil)
  f_p := (fldT_he c 15 26 rfl rfl (fldT_he c 13 25 rfl rfl (fldT_he c 9 24 rfl rfl fldT_nil)))
  f_points := (fldT_he c 13 27 rfl rfl fldT_nil)
  f_row_point := (fldT_he c 13 28 rfl rfl fldT_nil)
  f_second := (fldT_he c 9 29 rfl rfl fldT_nil)
  f_sent := (fldT_he c 15 30 rfl rfl fldT_nil)
  f_sums := (fldT_he c 13 31 rfl rfl fldT_nil)
  f_throws := (fldT_he c 15 32 rfl rfl fldT_nil)
  d_point_table := defT_he X G c 10 33 34 rfl rfl rfl (fun _ _ _ _ _ _ us hl => match us, hl with | [_, _], _ => rfl)
  d_value_at := defT_he X G c 11 35 36 rfl rfl rfl (fun _ _ _ _ _ _ us hl => match us, hl with | [_, _, _], _ => rfl)
  d_fold := defT_he X G c 12 37 38 rfl rfl rfl (fun _ _ _ _ _ _ us hl => match us, hl with | [_, _, _], _ => rfl)
  d_is_prime := defT_he X G c 13 39 40 rfl rfl rfl (fun _ _ _ _ _ _ us hl => match us, hl with | [_], _ => rfl)
  d_check_modulus := defT_he X G c 14 41 42 rfl rfl rfl (fun _ _ _ _ _ _ us hl => match us, hl with | [_], _ => rfl)
  d_power := defT_he X G c 15 43 44 rfl rfl rfl (fun _ _ _ _ _ _ us hl => match us, hl with | [_, _, _], _ => rfl)
  d_inverse := defT_he X G c 16 45 46 rfl rfl rfl (fun _ _ _ _ _ _ us hl => match us, hl with | [_, _], _ => rfl)
  d_is_number := defT_he X G c 17 47 48 rfl rfl rfl (fun _ _ _ _ _ _ us hl => match us, hl with | [_, _], _ => rfl)
  d_weights := defT_he X G c 18 49 50 rfl rfl rfl (fun _ _ _ _ _ _ us hl => match us, hl with | [_, _, _], _ => rfl)
  d_value := defT_he X G c 19 51 52 rfl rfl rfl (fun _ _ _ _ _ _ us hl => match us, hl with | [_, _, _], _ => rfl)
  d_corners := defT_he X G c 20 53 54 rfl rfl rfl (fun _ _ _ _ _ _ us hl => match us, hl with | [_, _], _ => rfl)
  d_same := defT_he X G c 21 55 56 rfl rfl rfl (fun _ _ _ _ _ _ us hl => match us, hl with | [_, _, _], _ => rfl)
  d_multiply := defT_he X G c 22 57 58 rfl rfl rfl (fun _ _ _ _ _ _ us hl => match us, hl with | [_, _, _, _], _ => rfl)
  d_check_field := defT_he X G c 23 59 60 rfl rfl rfl (fun _ _ _ _ _ _ us hl => match us, hl with | [_], _ => rfl)
  d_check_sizes := defT_he X G c 24 61 62 rfl rfl rfl (fun _ _ _ _ _ _ us hl => match us, hl with | [_, _], _ => rfl)
  d_check_matrix := defT_he X G c 25 63 64 rfl rfl rfl (fun _ _ _ _ _ _ us hl => match us, hl with | [_, _, _], _ => rfl)
  d_product_throws := defT_he X G c 26 65 66 rfl rfl rfl (fun _ _ _ _ _ _ us hl => match us, hl with | [_], _ => rfl)
  d_product_share := defT_he X G c 27 67 68 rfl rfl rfl (fun _ _ _ _ _ _ us hl => match us, hl with | [_], _ => rfl)
  d_check_talk := defT_he X G c 28 69 70 rfl rfl rfl (fun _ _ _ _ _ _ us hl => match us, hl with | [_, _, _, _, _], _ => rfl)
  d_ask_product := defT_he X G c 29 71 72 rfl rfl rfl (fun _ _ _ _ _ _ us hl => match us, hl with | [_, _, _, _], _ => rfl)
  d_judge_product := defT_he X G c 30 73 74 rfl rfl rfl (fun _ _ _ _ _ _ us hl => match us, hl with | [_, _, _, _, _, _, _], _ => rfl)
  d_round_agreement := defT_he X G c 31 75 76 rfl rfl rfl (fun _ _ _ _ _ _ us hl => match us, hl with | [_, _, _, _], _ => rfl)
  d_blame_product := defT_he X G c 32 77 78 rfl rfl rfl (fun _ _ _ _ _ _ us hl => match us, hl with | [_, _, _, _, _, _, _], _ => rfl)
  d__law_state := defT_he X G c 33 79 80 rfl rfl rfl (fun _ _ _ _ _ _ us hl => match us, hl with | [_], _ => rfl)
  d__law_draw := defT_he X G c 34 81 82 rfl rfl rfl (fun _ _ _ _ _ _ us hl => match us, hl with | [_, _], _ => rfl)
  d__law_pick := defT_he X G c 35 83 84 rfl rfl rfl (fun _ _ _ _ _ _ us hl => match us, hl with | [_, _], _ => rfl)
  d__law_corner := defT_he X G c 36 85 86 rfl rfl rfl (fun _ _ _ _ _ _ us hl => match us, hl with | [_, _], _ => rfl)
  d__law_near := defT_he X G c 37 87 88 rfl rfl rfl (fun _ _ _ _ _ _ us hl => match us, hl with | [_, _, _], _ => rfl)
  d__law_value := defT_he X G c 38 89 90 rfl rfl rfl (fun _ _ _ _ _ _ us hl => match us, hl with | [_, _, _], _ => rfl)
  d__law_times := defT_he X G c 39 91 92 rfl rfl rfl (fun _ _ _ _ _ _ us hl => match us, hl with | [_, _, _, _], _ => rfl)
  d__law_table := defT_he X G c 40 93 94 rfl rfl rfl (fun _ _ _ _ _ _ us hl => match us, hl with | [_, _, _], _ => rfl)
  d__law_at := defT_he X G c 41 95 96 rfl rfl rfl (fun _ _ _ _ _ _ us hl => match us, hl with | [_, _, _], _ => rfl)
  d__law_inverse := defT_he X G c 42 97 98 rfl rfl rfl (fun _ _ _ _ _ _ us hl => match us, hl with | [_, _], _ => rfl)
  d__law_bluff := defT_he X G c 43 99 100 rfl rfl rfl (fun _ _ _ _ _ _ us hl => match us, hl with | [_, _, _, _, _], _ => rfl)
  d__law_pair := defT_he X G c 44 101 102 rfl rfl rfl (fun _ _ _ _ _ _ us hl => match us, hl with | [_, _, _], _ => rfl)
  d__law_talk := defT_he X G c 45 103 104 rfl rfl rfl (fun _ _ _ _ _ _ us hl => match us, hl with | [_, _, _, _, _, _, _, _], _ => rfl)
  d__law_small := defT_he X G c 46 105 106 rfl rfl rfl (fun _ _ _ _ _ _ us hl => match us, hl with | [_], _ => rfl)
  d_law := defT_he X G c 47 107 108 rfl rfl rfl (fun _ _ _ _ _ _ us hl => match us, hl with | [_], _ => rfl)
  k_MOST := He.int_ok X G (c.fact 109 rfl)
  k_MOST_BITS := He.int_ok X G (c.fact 110 rfl)
  n_abs := He.free_ok X G (c.fact 111 rfl)
  n_all := He.free_ok X G (c.fact 112 rfl)
  n_enumerate := He.free_ok X G (c.fact 113 rfl)
  n_int := He.free_ok X G (c.fact 114 rfl)
  n_len := He.free_ok X G (c.fact 115 rfl)
  n_list := He.free_ok X G (c.fact 116 rfl)
  n_max := He.free_ok X G (c.fact 117 rfl)
  n_range := He.free_ok X G (c.fact 118 rfl)
  n_repr := He.free_ok X G (c.fact 119 rfl)
  n_sum := He.free_ok X G (c.fact 120 rfl)
  n_zip := He.free_ok X G (c.fact 121 rfl)
  e_FieldError := errT_he X G c 48 0 rfl rfl (fun _ _ _ _ _ _ us hl => match us, hl with | [_, _], _ => rfl)
  i_FieldError := initB_he X G c 1 rfl
  e_CircuitError := errT_he X G c 49 2 rfl rfl (fun _ _ _ _ _ _ us hl => match us, hl with | [_, _], _ => rfl)
  i_CircuitError := initB_he X G c 1 rfl
  e_TalkError := errT_he X G c 50 3 rfl rfl (fun _ _ _ _ _ _ us hl => match us, hl with | [_, _], _ => rfl)
  i_TalkError := initB_he X G c 1 rfl
  e_SizeError := errT_he X G c 51 4 rfl rfl (fun _ _ _ _ _ _ us hl => match us, hl with | [_, _], _ => rfl)
  i_SizeError := initB_he X G c 1 rfl
  }
end K87
section
open PySem PySem.W PySem.Calls PyProof.Rows
theorem K87.pre (hc : PySem.W.WalkO (PySem.W.view (PySem.W.OpenLaw.row PySem.Challenge.rw_layerask_k87_whole_false_products_are_bl).prog [54]) K87.names (PySem.W.XL (PySem.W.view (PySem.W.OpenLaw.row PySem.Challenge.rw_layerask_k87_whole_false_products_are_bl).prog [54]) []) K87.hk.says (PySem.W.OpenRow.toRowW (PySem.W.OpenLaw.row PySem.Challenge.rw_layerask_k87_whole_false_products_are_bl)) (HandSHeadRun.topDef (PySem.W.OpenLaw.row PySem.Challenge.rw_layerask_k87_whole_false_products_are_bl).prog 54) [] (fun f vs => PySem.call f vs)) : PySem.Challenge.rw_layerask_k87_whole_false_products_are_bl.Holds := by
  w_on; o_law
  refine HandSHeadRun.head_any (r := PySem.W.OpenLaw.row PySem.Challenge.rw_layerask_k87_whole_false_products_are_bl) (q := PySem.W.view (PySem.W.OpenLaw.row PySem.Challenge.rw_layerask_k87_whole_false_products_are_bl).prog [54]) (H := K87.hk) (ob := K87.ob) (M := 20000) (loose := K87.names) (d := HandSHeadRun.topDef (PySem.W.OpenLaw.row PySem.Challenge.rw_layerask_k87_whole_false_products_are_bl).prog 54) (kwd := []) K87.ob_eq
    (by kernel_rfl) (fun s => by kernel_rfl) K87.run (by kernel_rfl) (by kernel_rfl) (by kernel_rfl) (by rfl) (by first | assumption | decide +kernel) (by decide +kernel) ⟨rfl, rfl, rfl, rfl, rfl, by decide +kernel⟩ ?hw hc
  case hw => w_witness2
end
namespace Dl
open PySem L2
/-! ### enumerate over a tuple -/
def IteT (K : PySem.W.Frag) (a : Addr) (n : Nat) : It :=
  ⟨fun i H => ∃ (xs : List V) (x : V), SqT K H a xs ∧ xs.length = n ∧ xs[i]? = some x, fun i H v H' => ∃ T x, v = .ref T ∧ H T = none ∧ H' = upd H T (.tup [.int (i : Nat), x]) ∧ ∀ xs, SqT K H a xs → xs[i]? = some x, fun i H => ∃ xs : List V, SqT K H a xs ∧ xs.length = n ∧ n ≤ i⟩
theorem turn_enumT {P : Program} {w : World} {K : PySem.W.Frag} {elts : List Expr} {kk : Nat} {tpos : Pos} (a e it : Addr) (n : Nat) :
    Turn P w K (.Tuple elts kk tpos) (IteT K a n) [e, it] e (fun i h => (∃ old, IsEnum h e it ((i : Nat) : Int) old) ∧ h.IsTupleIter it a i ∧ e ≠ it ∧ a ≠ it ∧ e ≠ a ∧ i ≤ n) where
  mem := by simp
  obj := fun i h st b hb => by
    obtain ⟨⟨old, he⟩, ⟨o, ho, hc, hd⟩, _⟩ := st
    have e' : b = e ∨ b = it := by simpa using hb
    rcases e' with z | z
    · rw [z]; exact ⟨_, he, fun v q => nomatch q⟩
    · rw [z]; exact ⟨o, ho, fun v q => by rw [hd] at q; cases q⟩
  keep := fun i h h' st k => let ⟨⟨old, he⟩, hi, hne⟩ := st; ⟨⟨old, k e (by simp) _ he⟩, hi.at fun o q => k it (by simp) o q, hne⟩
  item := by
    intro X hP hw hK hc i pins s σ H E I hf st hg
    subst hP hw hK
    obtain ⟨⟨old, he⟩, hit, hne, hai, hea, hin⟩ := st
    obtain ⟨xs, x, hq, hxn, hx⟩ := hg
    obtain ⟨its, rv, p, hz⟩ := I.tuple hq
    obtain ⟨u, hu, ru⟩ := rv.get hx
    have hel : e < s.heap.objs.size := Heap.lt_size he
    have hil : it < s.heap.objs.size := by obtain ⟨_, q, _⟩ := hit; exact Heap.lt_size q
    have hlt : i < its.toArray.size := by
      have := rv.length
      have := (List.getElem?_eq_some_iff.mp hu).1
      simpa using this
    refine wpAny_pyNext_enum_itemD (Draws.tuple (prog := X.prog) (w := X.w) (A := X.A.in1) (I.ok.hd hc) it a hai its.toArray) he ⟨hit, p⟩ hlt hne (by simp [hne, hea]) fun y h' tk hy ho hst hT hsz hk => ?_
    have ey : y = u := by
      have h1 : its[i]? = some y := by simpa using hy
      rw [hu] at h1
      cases h1
      rfl
    subst ey
    refine ⟨_, rfl, wpAny_letOwnedTupleGo_enum (s := { s with heap := h', toks := tk + 1 }) ho fun h'' he' sb => ?_⟩
    have hT2 : h''.get? s.heap.objs.size = some { cls := .type "tuple", data := .seq #[.int i tk, y] } := (sb.2 _ (Nat.ne_of_gt hel)).trans hT
    have new : ObjOk X.prog X.w (upd H s.heap.objs.size (.tup [.int (i : Nat), x])) h'' s.heap.objs.size (.tup [.int (i : Nat), x]) :=
      ⟨by show 2 ≤ sizeLine; decide, [.int i tk, y], .cons ⟨_, rfl⟩ (.cons ru .nil), ⟨_, hT2, rfl, _, rfl⟩⟩
    have I1 : L2.Inv X pins σ (upd H s.heap.objs.size (.tup [.int (i : Nat), x])) { s with heap := h'', toks := tk + 1 } :=
      I.turnedNew (ch := [e, it]) (fun b ob hb q => (sb.2 b (fun z => hb (by simp [z]))).trans (hk b ob (fun z => hb (by simp [z])) (fun z => hb (by simp [z])) q)) hf (Nat.le_refl _) new
    have hi1 : i < n := by rw [← hxn]; exact (List.getElem?_eq_some_iff.mp hx).1
    refine ⟨.ref s.heap.objs.size, _, I1, rfl, ⟨_, x, rfl, I.hok.fresh (Nat.le_refl _), rfl, fun ys hy => by rw [I.tuple_inj hy hq]; exact hx⟩, ⟨⟨y, ?_⟩, hst.1.at fun o q => (sb.2 it (Ne.symm hne)).trans q, hne, hai, hea, by omega⟩, fun b hb => ?_⟩
    · have e1 : ((i + 1 : Nat) : Int) = (i : Int) + 1 := by omega
      rw [e1]; exact he'
    · have hb' : b < s.heap.objs.size := by
        have e' : b = e ∨ b = it := by simpa using hb
        rcases e' with z | z
        · rw [z]; exact hel
        · rw [z]; exact hil
      rw [upd_ne (Nat.ne_of_lt hb')]
      exact (hf b hb).1
  done := by
    intro X hP hw hK hc i pins s σ H E I hf st hg
    subst hP hw hK
    obtain ⟨⟨old, he⟩, hit, hne, hai, hea, hin⟩ := st
    obtain ⟨xs, hq, hxn, hx⟩ := hg
    obtain ⟨its, rv, p, hz⟩ := I.tuple hq
    obtain ⟨f0, f1, f2, f3, f4, f5⟩ := hf it (by simp)
    have hl := rv.length
    have ei : i = its.toArray.size := by simp; omega
    subst ei
    exact wpAny_pyNext_enum_endD (Draws.tuple (prog := X.prog) (w := X.w) (A := X.A.in1) (I.ok.hd hc) it a hai its.toArray) he ⟨hit, p⟩ fun h' eb => ⟨rfl, I.turned (t' := s.toks) (fun b o hb q => eb b o hb q) f0 f1 f3 f4 f5⟩
  self := fun A i s Q E st h => let ⟨⟨_, he⟩, _⟩ := st; wpAny_pyIter_enum he h
set_option maxHeartbeats 1000000 in
theorem meets_enumerate_newB1 {v : Value} {o : Obj} {H : Heap → Prop} (B : Begins v o H) :
    Meets (Builtin.«enumerate.__new__» ⟨[.type "enumerate", v], []⟩) (fun _ R s => H s.heap ∧
      R (.ok (.ret (.ref (s.heap.push o).objs.size))) { s with heap := (s.heap.push o).push { cls := .type "enumerate", data := .fields #[.none, .bool false, .ref s.heap.objs.size, rawInt 0, .none, .none] } }) :=
  .of_wp fun prog w A R s h => by
    obtain ⟨hp, g, d, tk, os⟩ := s; obtain ⟨h1, h⟩ := h
    have hsub := sub_enumerate
    have q1 : ∀ {A' : Around} {E : Value → Shared → Prop} {Q : Value → Shared → Prop}, Q (.ref hp.objs.size) ⟨hp.push o, g, d, tk, os⟩ → wpAny (model prog w) A' (pyIter v) Q E ⟨hp, g, d, tk, os⟩ :=
      fun q => B.iter prog w _ _ ⟨hp, g, d, tk, os⟩ _ h1 q
    wp_walk using q1
    refine wpAny_stack_any fun st => wpAny_pure ?_
    split
    · rename_i c _ _ _ _ _
      cases (c == Value.type "enumerate")
      · wp_walk using q1
        exact ⟨_, rfl, h⟩
      · wp_walk using q1
        exact ⟨_, rfl, h⟩
    · wp_walk using q1
      exact ⟨_, rfl, h⟩
theorem enum_begins1 {prog : Program} {w : World} {A : Around} {E : Value → Shared → Prop} {s : Shared} {v : Value} {o : Obj} {H : Heap → Prop} {Q : Value → Shared → Prop} (B : Begins v o H) (h1 : H s.heap)
    (h : ∀ h', IsEnum h' (s.heap.objs.size + 1) s.heap.objs.size 0 .none → h'.get? s.heap.objs.size = some o → h'.objs.size = s.heap.objs.size + 2 →
      (∀ b o, s.heap.get? b = some o → h'.get? b = some o) → Q (.ref (s.heap.objs.size + 1)) { s with heap := h' }) :
    wpAny (model prog w) A (call (.type "enumerate") [v]) Q E s := by
  refine callType_new F.called_enumerate (by decide) (F.typeCall_enumerate_1 _) (F.newCall_enumerate_1 _) (fun obj => F.args_object_init_2 obj _) F.entry_enumerate_new
    (meets_enumerate_newB1 B) ⟨h1, ?_⟩
  have hz : (s.heap.push o).objs.size = s.heap.objs.size + 1 := Heap.size_push ..
  show _ ∧ _
  rw [hz]
  have he : IsEnum ((s.heap.push o).push { cls := .type "enumerate", data := .fields #[.none, .bool false, .ref s.heap.objs.size, rawInt 0, .none, .none] }) (s.heap.objs.size + 1) s.heap.objs.size 0 .none := by
    have := Heap.get?_push_size (s.heap.push o) (o := { cls := .type "enumerate", data := .fields #[.none, .bool false, .ref s.heap.objs.size, rawInt 0, .none, .none] }) rfl
    rw [hz] at this; exact this
  exact ⟨⟨_, he, rfl⟩, h _ he (Heap.get?_push_of_some _ (Heap.get?_push_size _ B.free)) (by rw [Heap.size_push, hz]) fun b o x => Heap.get?_push_of_some _ (Heap.get?_push_of_some _ x)⟩
def iEnumT (K : PySem.W.Frag) (ta : TA) : TI := fun σ H R => ta σ H fun vs H1 => ∃ a xs, vs = [.ref a] ∧ SqT K H1 a xs ∧ R (IteT K a xs.length) H1
theorem pi_enumT {X : Cx} {e : Expr} {ta : TA} {p pos tpos : Pos} {elts : List Expr} {kk : Nat} (hg : Gl X "enumerate") (hm : X.mg "enumerate" = none) (ha : PA X [e] ta) (hs : starEach [e] X.env = [(false, eval e X.env)] := by rfl) :
    PI X (.Tuple elts kk tpos) (.Call (.Name "enumerate" p) [e] [] pos) (iEnumT X.K ta) := by
  refine ⟨fun pins s σ H R I h => ?_⟩
  refine PyProof.Rows.Call_ (ld_blt I hg hm PyProof.Rows.boot_enumerate (PyProof.Rows.callWith_type1 (thn (ha.run pos pins s σ H _ I h) fun us s1 ⟨vs, H1, I1, r1, q1⟩ => ?_) hs rfl))
  obtain ⟨a, xs, ex, hq, q⟩ := q1
  subst ex
  cases r1 with
  | cons r rr =>
    cases rr
    cases r
    obtain ⟨its, rv, p', hz⟩ := I1.tuple hq
    have hat : a < s1.heap.objs.size := by obtain ⟨_, q9, _⟩ := p'; exact Heap.lt_size q9
    refine enum_begins1 (begins_tuple a its.toArray) p' fun h' he hit hsz hk => wpAny_pyIter_enum he ?_
    have I2 : L2.Inv X pins σ H1 { s1 with heap := h' } := I1.kept (t' := s1.toks) hk
    refine ⟨s1.heap.objs.size + 1, [s1.heap.objs.size + 1, s1.heap.objs.size], _, _, H1, rfl, I2, turn_enumT a (s1.heap.objs.size + 1) s1.heap.objs.size xs.length, ⟨⟨.none, he⟩, ⟨_, hit, rfl, rfl⟩, Nat.succ_ne_self _, Nat.ne_of_lt hat, Nat.ne_of_gt (Nat.lt_succ_of_lt hat), Nat.zero_le _⟩, fun b hb => ?_, q⟩
    have e' : b = s1.heap.objs.size + 1 ∨ b = s1.heap.objs.size := by simpa using hb
    have hle : s1.heap.objs.size ≤ b := by
      rcases e' with z | z
      · rw [z]; exact Nat.le_add_right _ _
      · rw [z]; exact Nat.le_refl _
    exact I1.fpOk hle (I1.hok.fresh hle)
def diEnumT (r : DA) : DI := fun ρ m Φ Ψ => r ρ m (fun ds m1 => match ds with
  | [d] => match asT d with
    | some xs => Φ (enumD 0 xs) m1
    | none => False
  | _ => False) Ψ
theorem wlk_enumT {K : PySem.W.Frag} {w : Wd} {a : Addr} {xs : List V} {ds : List D} (q : SqT K w.F a xs) (r : RepAll K w ds xs) : Wlk K w (IteT K a xs.length) (enumD 0 ds) where
  go := fun w1 m H i d l h e => by
    obtain ⟨y, e9, _⟩ := enumD_get _ _ _ _ e
    obtain ⟨v, e1, _⟩ := r.get e9
    exact ⟨xs, v, sqt_mono (fun a o z => h.ext a o (l.F a o z)) q, rfl, e1⟩
  stop := fun w1 m H l h => ⟨xs, sqt_mono (fun a o z => h.ext a o (l.F a o z)) q, rfl, Nat.le_of_eq (by rw [enumD_len]; exact r.length)⟩
  yld := fun w1 m H i d x H' l h e y => by
    obtain ⟨T, y, rfl, hT, rfl, hy⟩ := y
    obtain ⟨z, e9, rfl⟩ := enumD_get _ _ _ _ e
    obtain ⟨v, e1, rv⟩ := r.get e9
    have z2 := hy xs (sqt_mono (fun a o z => h.ext a o (l.F a o z)) q)
    rw [e1] at z2; cases z2
    exact h.newTup hT ⟨_, _, rfl, by rw [Nat.zero_add]; rfl, _, _, rfl, Rep.mono l _ _ rv, rfl⟩
theorem ji_enumT {X : Cx} {E : WX} {a : Expr} {Ws : DA} {p pos tpos : Pos} {elts : List Expr} {kk : Nat} (hg : Gl X "enumerate") (hm : X.mg "enumerate" = none) (ha : JA X E [a] Ws) (hs : starEach [a] X.env = [(false, eval a X.env)] := by rfl) : JI X E (.Tuple elts kk tpos) (.Call (.Name "enumerate" p) [a] [] pos) (diEnumT Ws) :=
  PI.imp (pi_enumT hg hm ha hs) fun σ H R ⟨w, ρ, m, Ψ, Φ, a, n, h⟩ => by
  refine ⟨w, ρ, m, Ψ, _, a, fun ds m1 w1 H1 vs l1 h1 r1 q1 => ?_, h⟩
  split at q1
  · obtain ⟨v, rfl, rv⟩ := rep1 r1
    split at q1
    · rename_i e
      obtain ⟨a, xs, rfl, q, r⟩ := asT_fix e rv
      exact ⟨a, xs, rfl, sqt_mono h1.ext q, n _ m1 w1 H1 _ l1 h1 (wlk_enumT q r) q1⟩
    · exact q1.elim
  · exact q1.elim

local macro_rules | `(tactic| walk_at "dl") => `(tactic| try simp only [dSeq, dSet, dRaise_one, dRaise_two, dTryAs, dXf, dIsE, List.lookup_cons, List.lookup_nil, beq_self_eq_true, Bool.false_eq_true, if_false, dOp, dUn, dVar, dC, dCB, dCons, dNil, dRet, dRetN, dIf, dB, dAnd, dOr, dNot, dDrop, dNext, dMethL, dSetIx, dAndV, dOrV, dNotV, dBlV, dIfE, dLst, dTup, dLstM, dCall, dChain, dAsg, dgName, dgTup, bindD, asT, dFor, diList, diRng1, diRng2, diEnumerate, diZip, diReversed, dLc, dLcM, dYes, wipeD, dAug, dSl, dSlT, dpN, dpS,
  oI, oI0, oB0, oAdd, oNeg, oEq, oNe, oIx, oIsN, oNotN, isNon, oShl, oApp, oPop, oPopAt, cLen, cInt, cAbs, cSum, cMax2, cMin2, cList, cIsi, tyD, asL, asF, asK, moL_lst, ModC, DivC,
  List.getElem?_cons_zero, List.getElem?_cons_succ, List.set_cons_zero, List.set_cons_succ, List.getElem?_nil, List.length_cons, List.length_nil, List.length_map, Option.map_some, Option.bind_some, Option.isSome_some, if_true, true_and, and_true, MM.push])
local macro_rules | `(tactic| walk_at "dx") => `(tactic| try simp only [eq_self_iff_true, okE_int, okE_bl, okE_non, eqD_int, eqD_bl, kq_NoneType_int, kq_NoneType_bool, kq_NoneType_list, kq_NoneType_tuple, kq_NoneType_str, kq_bool_int, kq_bool_bool, kq_bool_list, kq_bool_tuple, kq_bool_str, kq_int_int, kq_int_bool, kq_int_list, kq_int_tuple, kq_int_str, kq_str_int, kq_str_bool, kq_str_list, kq_str_tuple, kq_str_str, kq_list_int, kq_list_bool, kq_list_list, kq_list_tuple, kq_list_str, kq_tuple_int, kq_tuple_bool, kq_tuple_list, kq_tuple_tuple, kq_tuple_str, oInL, oIsB, oNotB, oEqH, oNeH, oShr, oExt, cMaxL, cMinL, cAny, cAll, cTuple, cListM, dRevL, dFld, dSetF, dAugF, dMeth, dMake, moI_ins, app_len, set_app, List.contains_cons, List.contains_nil, Bool.true_or,  Bool.true_eq_false, decide_true, not_true_eq_false, not_false_eq_true, Bool.not_true, Bool.not_false, decide_eq_true_eq, Bool.not_eq_true', decide_eq_false_iff_not, dSeq, dSet, dRaise_one, dRaise_two, dTryAs, dXf, dIsE, List.lookup_cons, List.lookup_nil, beq_self_eq_true, Bool.false_eq_true, if_false, dOp, dUn, dVar, dC, dCB, dCons, dNil, dRet, dRetN, dIf, dB, dAnd, dOr, dNot, dDrop, dNext, dMethL, dSetIx, dAndV, dOrV, dNotV, dBlV, dIfE, dLst, dTup, dLstM, dCall, dChain, dAsg, dgName, dgTup, bindD, asT, dFor, diList, diRng1, diRng2, diEnumerate, diZip, diReversed, dLc, dLcM, dYes, wipeD, dAug, dSl, dSlT, dpN, dpS,
  oI, oI0, oB0, oAdd, oNeg, oEq, oNe, oIx, oIsN, oNotN, isNon, oShl, oApp, oPop, oPopAt, cLen, cInt, cAbs, cSum, cMax2, cMin2, cList, cIsi, tyD, asL, asF, asK, moL_lst, ModC, DivC,
  List.getElem?_cons_zero, List.getElem?_cons_succ, List.set_cons_zero, List.set_cons_succ, List.getElem?_nil, List.length_cons, List.length_nil, List.length_map, Option.map_some, Option.bind_some, Option.isSome_some, if_true, true_and, and_true, MM.push])
local macro_rules | `(tactic| walk_at "lim") => `(tactic| repeat (first | (refine ⟨by decide, ?_⟩) | (refine ⟨by (try simp only [List.length_map, List.length_dropLast, List.length_append, List.length_cons, List.length_nil, List.length_replicate, List.length_take, List.length_drop, List.length_range]); (show _ ≤ 16777216); omega, ?_⟩)))

set_option hygiene false in
local macro_rules | `(tactic| walk_at "stp") => `(tactic| (refine dSeq_k fun k1 h1 => ?_; walk_at "dx"))
set_option hygiene false in
local macro_rules | `(tactic| walk_at "nxt") => `(tactic| (subst h1; (try dsimp only); refine dSeq_k fun k1 h1 => ?_; walk_at "dx"))
set_option hygiene false in
local macro_rules | `(tactic| walk_at "lst") => `(tactic| (subst h1; (try dsimp only); walk_at "dx"))
set_option hygiene false in
local macro_rules | `(tactic| walk_at "nxt2") => `(tactic| (subst h2; (try dsimp only); refine dSeq_k fun k2 h2 => ?_; walk_at "dx"))
set_option hygiene false in
local macro_rules | `(tactic| walk_at "stp2") => `(tactic| (refine dSeq_k fun k2 h2 => ?_; walk_at "dx"))
set_option hygiene false in
local macro_rules | `(tactic| walk_at "lst2") => `(tactic| (subst h2; (try dsimp only); walk_at "dx"))
set_option hygiene false in
local macro_rules | `(tactic| walk_at "nx0") => `(tactic| (subst h1; (try dsimp only); refine dSeq_k fun k1 h1 => ?_))

/-! ### the draw that answers 0 where there is nothing to draw from -/
def W_draw2 : DS := dSeq (dIf (dB (dOp oLt (dVar 1) (dC (.int 1)))) (dRet (dC (.int 0))) (dNext)) W_draw1
theorem rd_draw2 : ∀ ds m Φ Ψ, ds.length = 2 → C_drawO ds m Φ Ψ → W_draw2 { nx := fun _ m' => Φ .non m', rt := Φ } (fun _ => Ψ) (ds.map some ++ List.replicate (5 - ds.length) none) m := by
  intro ds m Φ Ψ hl h
  have h1 := rd_draw1 ds m Φ Ψ hl h
  obtain ⟨k, j, cells, seed, n, rfl, hn, hn2, hk, hj, hjk, q⟩ := h
  change W_draw1 _ _ [some (D.hnd k), some (D.int n), none, none, none] m at h1
  change W_draw2 _ _ [some (D.hnd k), some (D.int n), none, none, none] m
  unfold W_draw2
  generalize W_draw1 = W at *
  walk_at "dx"
  rw [if_neg (by omega)]
  exact h1



/-! ### defs of the program that many laws reach -/
def PM (p : Int) : Prop := 2 ≤ p ∧ p ≤ 2147483647
theorem mod_in {p : Int} (hp : 2 ≤ p) {z : Int} : 0 ≤ z % p ∧ z % p < p := ⟨Int.emod_nonneg _ (by omega), Int.emod_lt_of_pos _ (by omega)⟩
theorem Cg.eq {p a b : Int} (h : Cg p a b) (a0 : 0 ≤ a ∧ a < p) (b0 : 0 ≤ b ∧ b < p) : a = b := by
  unfold Cg at h
  rw [Int.emod_eq_of_lt a0.1 a0.2, Int.emod_eq_of_lt b0.1 b0.2] at h
  exact h
def C_power : DC := fun ds m Φ _ => ∃ (b p : Int) (e : Nat), ds = [.int b, .int e, .int p] ∧ PM p ∧ Φ (.int (b ^ e % p)) m
def W_power : DS := dSeq (dSet 3 (dOp oMod (dC (.int 1)) (dVar 2))) (dSeq (dSet 4 (dOp oMod (dVar 0) (dVar 2))) (dSeq (dWhile (dB (dOp oGt (dVar 1) (dC (.int 0)))) (dSeq (dIf (dB (dOp oEq (dOp oMod (dVar 1) (dC (.int 2))) (dC (.int 1)))) (dSet 3 (dOp oMod (dOp oMul (dVar 3) (dVar 4)) (dVar 2))) (dNext)) (dSeq (dSet 4 (dOp oMod (dOp oMul (dVar 4) (dVar 4)) (dVar 2))) (dAug 1 (oI CDiv fun i j => i / j) (dC (.int 2)))))) (dRet (dVar 3))))
theorem rd_power : ∀ ds m Φ Ψ, ds.length = 3 → C_power ds m Φ Ψ → W_power { nx := fun _ m' => Φ .non m', rt := Φ } (fun _ => Ψ) (ds.map some ++ List.replicate (5 - ds.length) none) m := by
  intro ds m Φ Ψ _ h
  obtain ⟨b, p, e, rfl, ⟨hp, hp2⟩, q⟩ := h
  change W_power _ _ [some (.int b), some (.int e), some (.int p), none, none] m
  unfold W_power
  refine dSeq_k fun k1 h1 => ?_
  walk_at "dl"
  refine ⟨by omega, ?_⟩
  subst h1
  refine dSeq_k fun k1 h1 => ?_
  walk_at "dl"
  refine ⟨by omega, ?_⟩
  subst h1
  refine dSeq_k fun k1 h1 => ?_
  refine ⟨fun c ρ m' => ∃ (r s : Int), ρ = [some (.int b), some (.int c), some (.int p), some (.int r), some (.int s)] ∧ m' = m ∧ 0 ≤ r ∧ r < p ∧ 0 ≤ s ∧ s < p ∧ Cg p (r * s ^ c) (b ^ e), ⟨e, _, _, rfl, rfl, (mod_in hp).1, (mod_in hp).2, (mod_in hp).1, (mod_in hp).2, ?_⟩, ?_⟩
  · refine (Cg.mul .mod (Cg.pow .mod e)).trans (.of_eq (Int.one_mul _))
  · rintro c ρ m' ⟨r, s, rfl, rfl, r0, r1, s0, s1, hc⟩
    walk_at "dl"
    by_cases c0 : c = 0
    · subst c0
      rw [decide_eq_false (by decide), if_neg (by decide)]
      subst h1
      walk_at "dl"
      rw [Int.pow_zero, Int.mul_one] at hc
      have : r = b ^ e % p := Cg.eq (hc.trans Cg.mod.symm) ⟨r0, r1⟩ (mod_in hp)
      rw [this]
      exact q
    · rw [decide_eq_true (by omega), if_pos rfl]
      refine ⟨by decide, rfl, rfl, ?_⟩
      rw [eqD_int]
      have hlt : c / 2 < c := by omega
      have hcd : ((c : Nat) : Int) / 2 = ((c / 2 : Nat) : Int) := by omega
      rw [hcd]
      have sq : Cg p ((s * s % p) ^ (c / 2)) (s ^ (2 * (c / 2))) := by
        refine (Cg.pow .mod _).trans (.of_eq ?_)
        rw [Int.pow_mul]
        congr 1
        rw [Int.pow_succ, Int.pow_succ, Int.pow_zero, Int.one_mul]
      by_cases hb : (c : Int) % 2 = 1
      · rw [if_pos (decide_eq_true hb)]
        refine ⟨mulR s0 (by omega), by omega, mulR s0 (by omega), by omega, ⟨by decide, by decide⟩, c / 2, hlt, _, _, rfl, (mod_in hp).1, (mod_in hp).2, (mod_in hp).1, (mod_in hp).2, ?_⟩
        refine (Cg.mul .mod sq).trans (Cg.trans (.of_eq ?_) hc)
        have : c = 2 * (c / 2) + 1 := by omega
        rw [show s ^ c = s ^ (2 * (c / 2) + 1) by rw [← this], Int.pow_succ, Int.mul_assoc, Int.mul_comm s]
      · rw [if_neg (by simpa using hb)]
        refine ⟨mulR s0 (by omega), by omega, ⟨by decide, by decide⟩, c / 2, hlt, _, _, rfl, r0, r1, (mod_in hp).1, (mod_in hp).2, ?_⟩
        refine (Cg.mul .refl sq).trans (Cg.trans (.of_eq ?_) hc)
        have : c = 2 * (c / 2) := by omega
        rw [show s ^ c = s ^ (2 * (c / 2)) by rw [← this]]
/-- the inverse, or the error -/
def C_inverse : DC := fun ds m Φ Ψ => ∃ (a p : Int), ds = [.int a, .int p] ∧ PM p ∧ (a % p = 0 → Ψ "FieldError" [("number", .int a)] m) ∧ (a % p ≠ 0 → Φ (.int (a ^ (p - 2).toNat % p)) m)
def W_inverse : DS := dSeq (dIf (dB (dOp oEq (dOp oMod (dVar 0) (dVar 1)) (dC (.int 0)))) (dRaise "FieldError" ["number"] (dCons (dVar 0) (dNil))) (dNext)) (dRet (dCall 3 C_power (dCons (dVar 0) (dCons (dOp oSub (dVar 1) (dC (.int 2))) (dCons (dVar 1) (dNil))))))
theorem rd_inverse : ∀ ds m Φ Ψ, ds.length = 2 → C_inverse ds m Φ Ψ → W_inverse { nx := fun _ m' => Φ .non m', rt := Φ } (fun _ => Ψ) (ds.map some ++ List.replicate (2 - ds.length) none) m := by
  intro ds m Φ Ψ _ h
  obtain ⟨a, p, rfl, hp, q1, q2⟩ := h
  have hp1 := hp.1
  change W_inverse _ _ [some (.int a), some (.int p)] m
  unfold W_inverse
  refine dSeq_k fun k1 h1 => ?_
  walk_at "dl"
  refine ⟨by omega, rfl, rfl, ?_⟩
  rw [eqD_int]
  by_cases ha : a % p = 0
  · rw [if_pos (by simpa using ha)]
    walk_at "dl"
    exact q1 ha
  · rw [if_neg (by simpa using ha)]
    subst h1
    walk_at "dl"
    exact ⟨a, p, (p - 2).toNat, by rw [Int.toNat_of_nonneg (by omega)], hp, q2 ha⟩
def C_is_number : DC := fun ds m Φ _ => ∃ (a p : Int), ds = [.int a, .int p] ∧ Φ (.bl (decide (0 ≤ a ∧ a < p))) m
def W_is_number : DS := dRet (dChain oLe oLt (dC (.int 0)) (dVar 0) (dVar 1))
theorem rd_is_number : ∀ ds m Φ Ψ, ds.length = 2 → C_is_number ds m Φ Ψ → W_is_number { nx := fun _ m' => Φ .non m', rt := Φ } (fun _ => Ψ) (ds.map some ++ List.replicate (2 - ds.length) none) m := by
  intro ds m Φ Ψ _ h
  obtain ⟨a, p, rfl, q⟩ := h
  change W_is_number _ _ [some (.int a), some (.int p)] m
  unfold W_is_number
  walk_at "dl"
  by_cases h0 : 0 ≤ a
  · rw [if_pos (decide_eq_true h0)]
    have e : decide (a < p) = decide (0 ≤ a ∧ a < p) := decide_eq_decide.mpr ⟨fun h => ⟨h0, h⟩, fun h => h.2⟩
    rw [e]; exact q
  · rw [if_neg (by simpa using h0)]
    rw [decide_eq_false (fun z : 0 ≤ a ∧ a < p => h0 z.1)] at q
    exact q
/-- a prime by trial division -/
def Pr (n : Int) : Prop := 2 ≤ n ∧ ∀ d : Int, 2 ≤ d → d * d ≤ n → n % d ≠ 0
noncomputable def isPr (n : Int) : Bool := @decide (Pr n) (Classical.propDecidable _)
theorem isPr_true {n : Int} (h : Pr n) : isPr n = true := @decide_eq_true _ (Classical.propDecidable _) h
theorem isPr_false {n : Int} (h : ¬ Pr n) : isPr n = false := @decide_eq_false _ (Classical.propDecidable _) h
theorem sq_lt {d k n : Int} (h1 : d * d ≤ n) (h2 : n < k * k) (k0 : 0 ≤ k) (d0 : 0 ≤ d) : d < k := by
  rcases Int.lt_or_le d k with h | h
  · exact h
  · have := Int.mul_le_mul h h k0 d0
    omega
theorem le_sq {k : Int} (h : 1 ≤ k) : k ≤ k * k := by
  have := Int.mul_le_mul_of_nonneg_left h (show (0 : Int) ≤ k by omega)
  omega
theorem prim_Pr {n : Int} (P : Prim n) : Pr n := by
  refine ⟨P.two, fun d d2 hd z => ?_⟩
  obtain ⟨k, hk⟩ := Int.dvd_of_emod_eq_zero z
  have n2 := P.two
  have kpos : 0 < k := by
    rcases Int.lt_or_le 0 k with h | h
    · exact h
    · have := Int.mul_nonpos_of_nonneg_of_nonpos (show 0 ≤ d by omega) h
      omega
  have hdn : d < n := by
    have h1 := Int.mul_le_mul d2 (Int.le_refl d) (by omega) (by omega)
    omega
  have hkn : k < n := by
    have h1 := Int.mul_le_mul d2 (Int.le_refl k) (by omega) (by omega)
    omega
  rcases P.euc d k (by rw [← hk]; exact Int.dvd_refl n) with h | h
  · have := Int.le_of_dvd (by omega) h; omega
  · have := Int.le_of_dvd kpos h; omega
def C_is_prime : DC := fun ds m Φ _ => ∃ n : Int, ds = [.int n] ∧ n < 2 ^ 62 ∧ Φ (.bl (isPr n)) m
def W_is_prime : DS := dSeq (dIf (dB (dOp oLt (dVar 0) (dC (.int 4)))) (dRet (dOp oGt (dVar 0) (dC (.int 1)))) (dNext)) (dSeq (dIf (dB (dOp oEq (dOp oMod (dVar 0) (dC (.int 2))) (dC (.int 0)))) (dRet (dC (.bl false))) (dNext)) (dSeq (dSet 1 (dC (.int 3))) (dSeq (dWhile (dB (dOp oLe (dOp oMul (dVar 1) (dVar 1)) (dVar 0))) (dSeq (dIf (dB (dOp oEq (dOp oMod (dVar 0) (dVar 1)) (dC (.int 0)))) (dRet (dC (.bl false))) (dNext)) (dAug 1 (oI0 fun i j => i + j) (dC (.int 2))))) (dRet (dC (.bl true))))))
theorem rd_is_prime : ∀ ds m Φ Ψ, ds.length = 1 → C_is_prime ds m Φ Ψ → W_is_prime { nx := fun _ m' => Φ .non m', rt := Φ } (fun _ => Ψ) (ds.map some ++ List.replicate (2 - ds.length) none) m := by
  intro ds m Φ Ψ _ h
  obtain ⟨n, rfl, hn, q⟩ := h
  change W_is_prime _ _ [some (.int n), none] m
  unfold W_is_prime
  refine dSeq_k fun k1 h1 => ?_
  walk_at "dl"
  by_cases h4 : n < 4
  · rw [if_pos (decide_eq_true h4)]
    by_cases h2 : 1 < n
    · rw [decide_eq_true h2]
      rwa [isPr_true ⟨h2, fun d d2 hd => by have := Int.mul_le_mul d2 d2 (by decide) (by omega); omega⟩] at q
    · rw [decide_eq_false h2]
      rwa [isPr_false (fun z => h2 z.1)] at q
  rw [if_neg (by simpa using h4)]
  subst h1
  refine dSeq_k fun k1 h1 => ?_
  walk_at "dl"
  refine ⟨by decide, rfl, rfl, ?_⟩
  rw [eqD_int]
  by_cases he : n % 2 = 0
  · rw [if_pos (by simpa using he)]
    rwa [isPr_false (fun z => z.2 2 (by decide) (by omega) he)] at q
  rw [if_neg (by simpa using he)]
  subst h1
  refine dSeq_k fun k1 h1 => ?_
  walk_at "dl"
  subst h1
  refine dSeq_k fun k1 h1 => ?_
  refine ⟨fun c ρ m' => ∃ k : Int, c = (n + 3 - k).toNat ∧ ρ = [some (.int n), some (.int k)] ∧ m' = m ∧ 3 ≤ k ∧ k ≤ n + 2 ∧ k % 2 = 1 ∧ ∀ d, 2 ≤ d → d < k → n % d ≠ 0, ⟨_, 3, rfl, rfl, rfl, by decide, by omega, by decide, fun d h1 h2 => (show d = 2 by omega) ▸ he⟩, ?_⟩
  rintro c ρ m' ⟨k, rfl, rfl, rfl, k3, kn, ko, hk⟩
  walk_at "dl"
  have kk : k ≤ k * k := le_sq (by omega)
  by_cases hkn : k * k ≤ n
  · rw [decide_eq_true hkn, if_pos rfl]
    have hkn2 : k ≤ n := by omega
    refine ⟨.inl ⟨by omega, by omega⟩, ?_⟩
    walk_at "dl"
    refine ⟨by omega, rfl, rfl, ?_⟩
    rw [eqD_int]
    by_cases hd : n % k = 0
    · rw [if_pos (by simpa using hd)]
      walk_at "dl"
      rwa [isPr_false (fun z => z.2 k (by omega) hkn hd)] at q
    · rw [if_neg (by simpa using hd)]
      refine ⟨_, ?_, k + 2, rfl, rfl, by omega, by omega, by omega, fun d d2 hd2 => ?_⟩
      · omega
      · rcases Int.lt_or_le d k with h | h
        · exact hk d d2 h
        · by_cases e : d = k
          · rw [e]; exact hd
          · have e2 : d = k + 1 := by omega
            intro z
            apply he
            have : (2 : Int) ∣ n := Int.dvd_trans (Int.dvd_of_emod_eq_zero (by omega)) (Int.dvd_of_emod_eq_zero z)
            exact Int.emod_eq_zero_of_dvd this
  · rw [decide_eq_false hkn, if_neg (by decide)]
    refine ⟨.inl ⟨by omega, by omega⟩, ?_⟩
    subst h1
    walk_at "dl"
    rwa [isPr_true ⟨by omega, fun d d2 hd => hk d d2 (sq_lt hd (by omega) (by omega) (by omega))⟩] at q
def C_check_modulus : DC := fun ds m Φ Ψ => ∃ p : Int, ds = [.int p] ∧ ((2 ≤ p ∧ p ≤ 2147483647 ∧ Pr p) → Φ .non m) ∧ (¬ (2 ≤ p ∧ p ≤ 2147483647 ∧ Pr p) → Ψ "FieldError" [("number", .int p)] m)
def W_check_modulus : DS := dIf (dOr (dNot (dB (dChain oLe oLe (dC (.int 2)) (dVar 0) ((dC (.int 2147483647)))))) (dNot (dB (dCall 1 C_is_prime (dCons (dVar 0) (dNil)))))) (dRaise "FieldError" ["number"] (dCons (dVar 0) (dNil))) (dNext)
theorem rd_check_modulus : ∀ ds m Φ Ψ, ds.length = 1 → C_check_modulus ds m Φ Ψ → W_check_modulus { nx := fun _ m' => Φ .non m', rt := Φ } (fun _ => Ψ) (ds.map some ++ List.replicate (1 - ds.length) none) m := by
  intro ds m Φ Ψ _ h
  obtain ⟨p, rfl, q1, q2⟩ := h
  change W_check_modulus _ _ [some (.int p)] m
  unfold W_check_modulus
  walk_at "dl"
  by_cases h2 : 2 ≤ p
  · rw [if_pos (decide_eq_true h2)]
    by_cases h3 : p ≤ 2147483647
    · rw [decide_eq_true h3]
      walk_at "dl"
      refine ⟨p, rfl, by omega, ?_⟩
      by_cases h4 : Pr p
      · rw [isPr_true h4]
        walk_at "dl"
        exact q1 ⟨h2, h3, h4⟩
      · rw [isPr_false h4]
        walk_at "dl"
        exact q2 fun z => h4 z.2.2
    · rw [decide_eq_false h3]
      walk_at "dl"
      exact q2 fun z => h3 z.2.1
  · rw [if_neg (by simpa using h2)]
    walk_at "dl"
    exact q2 fun z => h2 z.1



/-! ### circuits -/
theorem okE_str {n : Nat} {x : Str} (h : PyData.strOk x = true) : okE n (.str x) = true := h
inductive Gate where
  | lin (a x b y : Int)
  | mul (c x y : Int)
def gD : Gate → D
  | .lin a x b y => .tup [.str (PySem.Str.ofString "lin"), .int a, .int x, .int b, .int y]
  | .mul c x y => .tup [.str (PySem.Str.ofString "mul"), .int c, .int x, .int y]
def gOK (p cols : Int) : Gate → Prop
  | .lin a x b y => (0 ≤ a ∧ a < p) ∧ (0 ≤ x ∧ x < cols) ∧ (0 ≤ b ∧ b < p) ∧ (0 ≤ y ∧ y < cols)
  | .mul c x y => (0 ≤ c ∧ c < p) ∧ (0 ≤ x ∧ x < cols) ∧ (0 ≤ y ∧ y < cols)
structure Cir where
  p : Int
  ws : List Int
  ls : List (List Gate)
def lD (l : List Gate) : D := .lst (l.map gD)
def cD (c : Cir) : D := .tup [.str (PySem.Str.ofString "circuit"), .int c.p, .lst (c.ws.map D.int), .lst (c.ls.map lD)]
structure CirOK (c : Cir) (most wide : Nat) : Prop where
  pm : PM c.p
  pr : Prim c.p
  l0 : 1 ≤ c.ls.length
  l1 : c.ls.length ≤ most
  wl : c.ws.length = c.ls.length + 1
  w0 : ∀ w ∈ c.ws, 0 ≤ w ∧ w ≤ wide
  ll : ∀ i < c.ls.length, ((c.ls.getD i []).length : Int) = 2 ^ (gi c.ws (i : Nat)).toNat
  gg : ∀ i < c.ls.length, ∀ g ∈ c.ls.getD i [], gOK c.p (2 ^ (gi c.ws ((i + 1 : Nat) : Int)).toNat) g
theorem plD_ints (xs : List Int) : plD (.lst (xs.map D.int)) = true := plDs_of fun d hd => by
  obtain ⟨g, _, rfl⟩ := List.mem_map.mp hd
  rfl
theorem pow_le8 {w : Int} {wide : Nat} (h : 0 ≤ w ∧ w ≤ wide) (hw : wide ≤ 3) : (2 : Int) ^ w.toNat ≤ 8 ∧ 1 ≤ (2 : Int) ^ w.toNat := by
  have : w = 0 ∨ w = 1 ∨ w = 2 ∨ w = 3 := by omega
  rcases this with rfl | rfl | rfl | rfl <;> exact ⟨by decide, by decide⟩
theorem gi_mem {xs : List Int} {i : Nat} (h : i < xs.length) : gi xs (i : Nat) ∈ xs := by
  rw [gi_nat, List.getD_eq_getElem?_getD, List.getElem?_eq_getElem h]
  exact List.getElem_mem h
theorem all2_mem {α β : Type} {P : α → Prop} : ∀ {xs : List β} {ys : List α}, All2 (fun _ y => P y) xs ys → ∀ y ∈ ys, P y
  | _, _, .nil, y, hy => by cases hy
  | _, _, .cons a h, y, hy => by
    rcases List.mem_cons.mp hy with e | e
    · rw [e]; exact a
    · exact all2_mem h y e
/-! ### a comprehension whose items look at what changes -/
theorem lcW_fnM {α β : Type} {inj : α → D} {out : β → D} {g : DG} {te : DE} {ρ : Dl.Env} {Φ : D → MM → Prop} (f : α → β) (m : MM) (xs : List α)
    (hg : ∀ x ∈ xs, ∀ (acc : List D) (Θ : D → MM → Prop), Θ (out (f x)) (m.push (.lst acc)) → g (inj x) ρ (m.push (.lst acc)) (fun ρ1 m1 => m1 = m.push (.lst acc) ∧ te ρ1 (m.push (.lst acc)) Θ XF)) (hc : ∀ y, clD m.M.length (out y) = true) (hl : xs.length ≤ LIM) (h : Φ (.lst ((xs.map f).map out)) m) :
    lcW g dYes te ρ Φ (xs.map inj) [] m := by
  have key : ∀ (ys : List α), (∀ x ∈ ys, x ∈ xs) → ∀ (acc : List D), acc.length + ys.length ≤ LIM → Φ (.lst (acc ++ (ys.map f).map out)) m → lcW g dYes te ρ Φ (ys.map inj) acc m := by
    intro ys
    induction ys with
    | nil => intro _ acc _ h; rw [List.map_nil, List.map_nil, List.append_nil] at h; exact h
    | cons x ys ih =>
      intro hx acc hl h
      rw [List.length_cons] at hl
      have z := hg x (hx x List.mem_cons_self) acc (fun y m3 => m3 = m.push (.lst acc) ∧ acc.length < LIM ∧ clD m.M.length y = true ∧ lcW g dYes te ρ Φ (ys.map inj) (acc ++ [y]) m) ⟨rfl, by omega, hc _, ih (fun y hy => hx y (List.mem_cons_of_mem _ hy)) (acc ++ [out (f x)]) (by rw [List.length_append, List.length_singleton]; omega) (by
        rw [List.map_cons, List.map_cons] at h
        rw [List.append_assoc]
        exact h)⟩
      have key : (fun (ρ1 : Dl.Env) (m1 : MM) => m1 = m.push (.lst acc) ∧ te ρ1 (m.push (.lst acc)) (fun y m3 => m3 = m.push (.lst acc) ∧ acc.length < LIM ∧ clD m.M.length y = true ∧ lcW g dYes te ρ Φ (ys.map inj) (acc ++ [y]) m) XF)
          = (fun ρ1 m1 => m1 = m.push (.lst acc) ∧ dYes ρ1 (m.push (.lst acc)) (fun b m2 => m2 = m.push (.lst acc) ∧ if b = true then te ρ1 (m.push (.lst acc)) (fun y m3 => m3 = m.push (.lst acc) ∧ acc.length < LIM ∧ clD m.M.length y = true ∧ lcW g dYes te ρ Φ (ys.map inj) (acc ++ [y]) m) XF
            else lcW g dYes te ρ Φ (ys.map inj) acc m) XF) := by
        funext ρ1 m1
        unfold dYes
        simp
      rw [key] at z
      exact z
  exact key xs (fun x h => h) [] (by rw [List.length_nil]; omega) (by rw [List.nil_append]; exact h)
/-! ### rows, runs -/
theorem app_len2 {M L : List MO} {x : MO} : (M ++ x :: L)[M.length]? = some x := by rw [List.getElem?_append_right (Nat.le_refl _)]; simp
theorem set_app2 {M L : List MO} {x z : MO} : (M ++ x :: L).set M.length z = M ++ z :: L := by rw [List.set_append_right _ _ (Nat.le_refl _)]; simp
theorem shl1 (b : Nat) : (1 : Int) * 2 ^ ((b : Nat) : Int).toNat = ((2 ^ b : Nat) : Int) := by
  rw [Int.one_mul, Int.toNat_natCast]
  simp
theorem cpow_ok {b : Nat} (h : b ≤ 1000) : CPow 1 (b : Nat) := ⟨by omega, by omega, by decide⟩
def colsC (c : Cir) (i : Nat) : Int := 2 ^ (gi c.ws (i : Nat)).toNat
/-! the values of a circuit -/
def gv (p : Int) (below : List Int) : Gate → Int
  | .lin a x b y => (a * gi below x + b * gi below y) % p
  | .mul c x y => c * gi below x * gi below y % p
theorem gi_in {p : Int} {xs : List Int} (h : ∀ v ∈ xs, 0 ≤ v ∧ v < p) {z : Int} (h0 : 0 ≤ z) (h1 : z < (xs.length : Nat)) : 0 ≤ gi xs z ∧ gi xs z < p := by
  obtain ⟨n, rfl⟩ := Int.eq_ofNat_of_zero_le h0
  exact h _ (gi_mem (by omega))
/-- all columns of all layers, the last layer being the inputs -/
def rr (p : Int) : List (List Gate) → List Int → List (List Int)
  | [], inp => [inp]
  | l :: ls, inp => (l.map (gv p ((rr p ls inp).headD []))) :: rr p ls inp
def intL (xs : List Int) : D := .lst (xs.map D.int)
/-- row r has as many numbers as layer i has columns -/
structure rowsOK (p : Int) (n : Int) (r : List Int) : Prop where
  len : (r.length : Int) = n
  inp : ∀ v ∈ r, 0 ≤ v ∧ v < p
def tabI (found : List (List (List Int))) (i cols : Nat) : List Int := (List.range cols).flatMap fun g => found.map fun f => gi (f.getD i []) (g : Nat)
def colsN (c : Cir) (i : Nat) : Nat := 2 ^ (gi c.ws (i : Nat)).toNat
theorem colsN_eq {c : Cir} {i : Nat} : (colsN c i : Int) = colsC c i := by unfold colsN colsC; simp
def tables (c : Cir) (R : List (List Int)) : List (List Int) := (List.range (c.ls.length + 1)).map fun i => tabI (R.map (rr c.p c.ls)) i (colsN c i)
def tabL (t : List (List Int)) : D := .lst (t.map intL)
def InP (p : Int) (xs : List Int) : Prop := ∀ x ∈ xs, 0 ≤ x ∧ x < p
theorem InP.gi {p : Int} {xs : List Int} (h : InP p xs) {z : Int} (h0 : 0 ≤ z) (hz : z < xs.length) : 0 ≤ gi xs z ∧ gi xs z < p := by
  have hl : z.toNat < xs.length := by omega
  unfold Dl.gi
  rw [List.getD_eq_getElem?_getD, List.getElem?_eq_getElem hl]
  exact h _ (List.getElem_mem hl)

/-- the values at 0, …, n - 1 -/
def vals (cs : List Int) (n : Nat) (p : Int) : List Int := (List.range n).map fun k : Nat => pev cs (k : Nat) % p

theorem InP.gN {p : Int} {xs : List Int} (h : InP p xs) {i : Nat} (hz : i < xs.length) : 0 ≤ Dl.gi xs (i : Nat) ∧ Dl.gi xs (i : Nat) < p := h.gi (by omega) (by omega)

theorem vals_len {cs : List Int} {n : Nat} {p : Int} : (vals cs n p).length = n := by
  unfold vals
  rw [List.length_map, List.length_range]
theorem vals_at {cs : List Int} {n k : Nat} {p : Int} (h : k < n) : gi (vals cs n p) (k : Nat) = pev cs (k : Nat) % p := by
  unfold vals
  rw [gi_range h]
/-! ### the value of a polynomial that is told by any values -/
def abM (k : Nat) (t p : Int) : Nat → Int
  | 0 => 1
  | j + 1 => if j = k then abM k t p j else abM k t p j * (t - (j : Nat)) % p
theorem abM_cg {k : Nat} {t p : Int} : ∀ j, Cg p (abM k t p j) (above k t j)
  | 0 => .refl
  | j + 1 => by
    unfold abM above
    split
    · exact abM_cg j
    · exact Cg.mod.trans ((abM_cg j).mul .refl)
theorem abM_in {k : Nat} {t p : Int} (hp : 2 ≤ p) : ∀ j, 0 ≤ abM k t p j ∧ abM k t p j < p
  | 0 => ⟨by show (0 : Int) ≤ 1; decide, by show (1 : Int) < p; omega⟩
  | j + 1 => by
    unfold abM
    split
    · exact abM_in hp j
    · exact mod_in hp
def wtM (n : Nat) (t p : Int) (k : Nat) : Int := abM k t p n * ((abM k (k : Nat) p n) ^ (p - 2).toNat % p) % p
def wtsV (n : Nat) (t p : Int) : List Int := (List.range n).map (wtM n t p)
theorem wtsV_len {n : Nat} {t p : Int} : (wtsV n t p).length = n := by unfold wtsV; rw [List.length_map, List.length_range]
def valV (vs : List Int) (t p : Int) : Int := if t < vs.length then gi vs t else (S vs.length fun k => gi vs (k : Nat) * wtM vs.length t p k) % p
def cornV (vs : List Int) (p : Int) : Int := if vs.length = 1 then 2 * gi vs 0 % p else (gi vs 0 + gi vs 1) % p
theorem wtM_inv {p : Int} (P : Prim p) {n k : Nat} (hn : (n : Int) ≤ p) (hk : k < n) : Cg p (above k (k : Nat) n * (abM k (k : Nat) p n) ^ (p - 2).toNat) 1 := by
  have nb : ¬ Cg p (abM k (k : Nat) p n) 0 := fun z => above_ne P n hn (by omega) (abM_cg n |>.symm.trans z)
  rw [Int.mul_comm]
  exact (Cg.mul .refl (abM_cg n).symm).trans (fermat_inv P nb)
theorem valV_pev {p : Int} (P : Prim p) {cs : List Int} {n : Nat} {t : Int} (hcs : cs.length ≤ n) (hn0 : 0 < n) (hnp : (n : Int) ≤ p) (t0 : 0 ≤ t) : valV (vals cs n p) t p = pev cs t % p := by
  unfold valV
  rw [vals_len]
  split
  · rename_i h
    obtain ⟨t, rfl⟩ := Int.eq_ofNat_of_zero_le t0
    exact vals_at (by omega)
  · obtain ⟨j, rfl⟩ : ∃ j, n = j + 1 := ⟨n - 1, by omega⟩
    have lg := lagrange P (n := j) hnp (Pol.pev (p := p) cs hcs) (fun k => (abM k (k : Nat) p (j + 1)) ^ (p - 2).toNat) (fun k hk => wtM_inv P hnp (by omega)) t
    refine Cg.trans (S_cg (p := p) (j + 1) fun k hk => ?_) lg
    refine Cg.mul ?_ ?_
    · rw [vals_at hk]; exact .mod
    · exact Cg.mod.trans ((abM_cg _).mul .mod)
def C_weights : DC := fun ds m Φ _ => ∃ (n : Nat) (t p : Int), ds = [.int n, .int t, .int p] ∧ PM p ∧ Prim p ∧ (n : Int) ≤ p ∧ n ≤ 1000 ∧ Φ (.lst ((wtsV n t p).map D.int)) m
def W_weights : DS := dSeq (dSet 3 (dLstM (dNil))) (dSeq (dFor (diRng1 (dCons (dVar 0) (dNil))) (dgName 4) (dSeq (dSet 5 (dC (.int 1))) (dSeq (dSet 6 (dC (.int 1))) (dSeq (dFor (diRng1 (dCons (dVar 0) (dNil))) (dgName 7) (dIf (dB (dOp oNe (dVar 7) (dVar 4))) (dSeq (dSet 5 (dOp oMod (dOp oMul (dVar 5) (dOp oSub (dVar 1) (dVar 7))) (dVar 2))) (dSet 6 (dOp oMod (dOp oMul (dVar 6) (dOp oSub (dVar 4) (dVar 7))) (dVar 2)))) (dNext))) (dDrop (dMethL oApp (dVar 3) (dCons (dOp oMod (dOp oMul (dVar 5) (dCall 2 C_inverse (dCons (dVar 6) (dCons (dVar 2) (dNil))))) (dVar 2)) (dNil)))))))) (dRet (dVar 3)))
theorem rd_weights : ∀ ds m Φ Ψ, ds.length = 3 → C_weights ds m Φ Ψ → W_weights { nx := fun _ m' => retQ m Φ .non m', rt := retQ m Φ } (fun _ => retX m Ψ) (ds.map some ++ List.replicate (8 - ds.length) none) m := by
  intro ds m Φ Ψ _ h
  obtain ⟨n, t, p, rfl, hp, P, hn, hn2, q⟩ := h
  have hp1 := hp.1
  have hp2 := hp.2
  change W_weights _ _ [some (.int n), some (.int t), some (.int p), none, none, none, none, none] m
  unfold W_weights
  refine dSeq_k fun k1 h1 => ?_
  walk_at "dx"
  refine ⟨by decide, ?_⟩
  subst h1
  refine dSeq_k fun k1 h1 => ?_
  walk_at "dx"
  refine ⟨⟨by omega, by omega⟩, ?_⟩
  rw [rngD0, Int.toNat_natCast]
  refine forW_nat (fun k ρ m' => ∃ (v4 v5 v6 v7 : Option D), ρ = [some (.int n), some (.int t), some (.int p), some (.hnd m.M.length), v4, v5, v6, v7] ∧ m' = ⟨m.M ++ [MO.lst (((List.range k).map (wtM n t p)).map D.int)], m.s⟩) ?_ ?_ ⟨_, _, _, _, rfl, rfl⟩
  · rintro k kk hk hkk ρ m' ⟨v4, v5, v6, v7, rfl, rfl⟩
    clear h1
    refine dSeq_k fun k1 h1 => ?_
    walk_at "dx"
    subst h1
    refine dSeq_k fun k1 h1 => ?_
    walk_at "dx"
    subst h1
    refine dSeq_k fun k1 h1 => ?_
    walk_at "dx"
    refine ⟨⟨by omega, by omega⟩, ?_⟩
    rw [rngD0, Int.toNat_natCast]
    refine forW_nat (fun j ρ m2 => ∃ (v7 : Option D), ρ = [some (.int n), some (.int t), some (.int p), some (.hnd m.M.length), some (.int k), some (.int (abM k t p j)), some (.int (abM k (k : Nat) p j)), v7] ∧ m2 = ⟨m.M ++ [MO.lst (((List.range k).map (wtM n t p)).map D.int)], m.s⟩) ?_ ?_ ⟨_, rfl, rfl⟩
    · rintro j kj hj hkj ρ m' ⟨v7, rfl, rfl⟩
      clear h1
      have a0 := abM_in (k := k) (t := t) hp1 j
      have b0 := abM_in (k := k) (t := (k : Nat)) hp1 j
      walk_at "dx"
      by_cases e : j = k
      · rw [if_neg (by simpa using (by omega : (j : Int) = k))]
        exact hkj _ _ ⟨_, by rw [show abM k t p (j + 1) = abM k t p j from if_pos e, show abM k (k : Nat) p (j + 1) = abM k (k : Nat) p j from if_pos e], rfl⟩
      · rw [if_pos (by simpa using (by omega : ¬ (j : Int) = k))]
        refine ⟨mulL a0.1 (by omega), by omega, mulL b0.1 (by omega), by omega, ?_⟩
        exact hkj _ _ ⟨_, by rw [show abM k t p (j + 1) = abM k t p j * (t - (j : Nat)) % p from if_neg e, show abM k (k : Nat) p (j + 1) = abM k (k : Nat) p j * ((k : Nat) - (j : Nat)) % p from if_neg e], rfl⟩
    · rintro ρ m' ⟨v7, rfl, rfl⟩
      subst h1
      have a0 := abM_in (k := k) (t := t) hp1 n
      have nb : ¬ Cg p (abM k (k : Nat) p n) 0 := fun z => above_ne P n hn (by omega) ((abM_cg n).symm.trans z)
      have nb2 : abM k (k : Nat) p n % p ≠ 0 := fun z => nb (by unfold Cg; rw [z]; rfl)
      walk_at "dx"
      refine ⟨_, p, rfl, hp, fun z => absurd z nb2, fun _ => ?_⟩
      walk_at "dx"
      have i0 := mod_in hp1 (z := abM k (k : Nat) p n ^ (p - 2).toNat)
      refine ⟨mulL a0.1 (by omega), by omega, by show _ < 16777216; simp only [List.length_map, List.length_range]; omega, hkk _ _ ⟨_, _, _, _, rfl, ?_⟩⟩
      rw [List.range_succ, List.map_append, List.map_append]
      rfl
  · rintro ρ m' ⟨v4, v5, v6, v7, rfl, rfl⟩
    subst h1
    walk_at "dx"
    exact retQ_lst (clAll_ints _) q
def C_value : DC := fun ds m Φ _ => ∃ (vs : List Int) (t p : Int), ds = [.lst (vs.map D.int), .int t, .int p] ∧ PM p ∧ Prim p ∧ InP p vs ∧ vs.length ≤ 1000 ∧ (vs.length : Int) ≤ p ∧ 0 ≤ t ∧ Φ (.int (valV vs t p)) m
def W_value : DS := dSeq (dIf (dB (dOp oLt (dVar 1) (dCB cLen (dCons (dVar 0) (dNil))))) (dRet (dOp oIx (dVar 0) (dVar 1))) (dNext)) (dSeq (dSet 3 (dC (.int 0))) (dSeq (dFor (diEnumerate (dCons (dCall 3 C_weights (dCons (dCB cLen (dCons (dVar 0) (dNil))) (dCons (dVar 1) (dCons (dVar 2) (dNil))))) (dNil))) (dgTup [4, 5]) (dAug 3 (oI0 fun i j => i + j) (dOp oMul (dOp oIx (dVar 0) (dVar 4)) (dVar 5)))) (dRet (dOp oMod (dVar 3) (dVar 2)))))
theorem rd_value : ∀ ds m Φ Ψ, ds.length = 3 → C_value ds m Φ Ψ → W_value { nx := fun _ m' => Φ .non m', rt := Φ } (fun _ => Ψ) (ds.map some ++ List.replicate (6 - ds.length) none) m := by
  intro ds m Φ Ψ _ h
  obtain ⟨vs, t, p, rfl, hp, P, vi, hn, hnp, t0, q⟩ := h
  have hp1 := hp.1
  have hp2 := hp.2
  change W_value _ _ [some (D.lst (vs.map D.int)), some (.int t), some (.int p), none, none, none] m
  unfold W_value
  unfold valV at q
  refine dSeq_k fun k1 h1 => ?_
  walk_at "dx"
  by_cases ht : t < vs.length
  · rw [if_pos ht] at q
    rw [if_pos ht]
    exact ⟨_, atI_gi t0 ht, q⟩
  · rw [if_neg ht] at q
    rw [if_neg ht]
    subst h1
    refine dSeq_k fun k1 h1 => ?_
    walk_at "dx"
    subst h1
    refine dSeq_k fun k1 h1 => ?_
    walk_at "dx"
    refine ⟨vs.length, t, p, rfl, hp, P, hnp, hn, ?_⟩
    walk_at "dx"
    refine forW_enum (inj := D.int) (fun i r ρ m' => ∃ (v4 v5 : Option D), ρ = [some (D.lst (vs.map D.int)), some (.int t), some (.int p), some (.int (S i fun j => gi vs (j : Nat) * wtM vs.length t p j)), v4, v5] ∧ m' = m ∧ r = (wtsV vs.length t p).drop i ∧ i ≤ vs.length) ?_ ?_ (wtsV vs.length t p) 0 _ _ ⟨_, _, rfl, rfl, rfl, by omega⟩
    · rintro i w r kk hk ρ m' ⟨v4, v5, rfl, rfl, hr, hi⟩
      have hil : i < (wtsV vs.length t p).length := by
        rcases Nat.lt_or_ge i (wtsV vs.length t p).length with z | z
        · exact z
        · rw [List.drop_eq_nil_of_le z] at hr
          cases hr
      rw [List.drop_eq_getElem_cons hil] at hr
      obtain ⟨rfl, hr2⟩ := List.cons.inj hr
      rw [wtsV_len] at hil
      have ew : (wtsV vs.length t p)[i]'(by rw [wtsV_len]; exact hil) = wtM vs.length t p i := by unfold wtsV; rw [List.getElem_map, List.getElem_range]
      have hg := vi.gN (i := i) hil
      walk_at "dx"
      rw [ew]
      refine ⟨_, atI_gi (by omega) (by omega), mulL hg.1 (by omega), ?_⟩
      walk_at "dx"
      exact hk _ _ ⟨_, _, rfl, rfl, hr2, by omega⟩
    · rintro i ρ m' ⟨v4, v5, rfl, rfl, hr, hi⟩
      have e : i = vs.length := by
        have := congrArg List.length hr
        rw [List.length_nil, List.length_drop, wtsV_len] at this
        omega
      rw [e]
      subst h1
      walk_at "dx"
      exact ⟨by omega, q⟩
def C_corners : DC := fun ds m Φ _ => ∃ (vs : List Int) (p : Int), ds = [.lst (vs.map D.int), .int p] ∧ PM p ∧ InP p vs ∧ 0 < vs.length ∧ Φ (.int (cornV vs p)) m
def W_corners : DS := dSeq (dIf (dB (dOp oEq (dCB cLen (dCons (dVar 0) (dNil))) (dC (.int 1)))) (dRet (dOp oMod (dOp oMul (dC (.int 2)) (dOp oIx (dVar 0) (dC (.int 0)))) (dVar 1))) (dNext)) (dRet (dOp oMod (dOp oAdd (dOp oIx (dVar 0) (dC (.int 0))) (dOp oIx (dVar 0) (dC (.int 1)))) (dVar 1)))
theorem rd_corners : ∀ ds m Φ Ψ, ds.length = 2 → C_corners ds m Φ Ψ → W_corners { nx := fun _ m' => Φ .non m', rt := Φ } (fun _ => Ψ) (ds.map some ++ List.replicate (2 - ds.length) none) m := by
  intro ds m Φ Ψ _ h
  obtain ⟨vs, p, rfl, hp, vi, hn0, q⟩ := h
  have hp1 := hp.1
  have hp2 := hp.2
  change W_corners _ _ [some (D.lst (vs.map D.int)), some (.int p)] m
  unfold W_corners
  unfold cornV at q
  refine dSeq_k fun k1 h1 => ?_
  walk_at "dx"
  by_cases e : vs.length = 1
  · rw [if_pos e] at q
    rw [if_pos (by omega)]
    refine ⟨_, atI_gi (by decide) (by omega), ?_⟩
    walk_at "dx"
    exact ⟨mulL (by decide) (by decide), by omega, q⟩
  · rw [if_neg e] at q
    rw [if_neg (by omega)]
    subst h1
    walk_at "dx"
    refine ⟨_, atI_gi (by decide) (by omega), _, atI_gi (by decide) (by omega), ?_⟩
    walk_at "dx"
    exact ⟨by omega, q⟩
/-! ### folding, products, sums over the corners -/
def foldS (p : Int) (t : List Int) (x : Int) : List Int := (List.range (t.length / 2)).map fun k => (gi t (2 * (k : Nat)) + x * (gi t (2 * (k : Nat) + 1) - gi t (2 * (k : Nat)))) % p
def C_fold : DC := fun ds m Φ _ => ∃ (t : List Int) (x p : Int), ds = [.lst (t.map D.int), .int x, .int p] ∧ PM p ∧ InP p t ∧ t.length ≤ 65536 ∧ Φ (.lst ((foldS p t x).map D.int)) m
def W_fold : DS := dSeq (dSet 3 (dOp oDiv (dCB cLen (dCons (dVar 0) (dNil))) (dC (.int 2)))) (dRet (dLc (diRng1 (dCons (dVar 3) (dNil))) (dgName 4) (dYes) (dOp oMod (dOp oAdd (dOp oIx (dVar 0) (dOp oMul (dC (.int 2)) (dVar 4))) (dOp oMul (dVar 1) (dOp oSub (dOp oIx (dVar 0) (dOp oAdd (dOp oMul (dC (.int 2)) (dVar 4)) (dC (.int 1)))) (dOp oIx (dVar 0) (dOp oMul (dC (.int 2)) (dVar 4)))))) (dVar 2)) [4]))
theorem inP_mod {p : Int} (hp : 2 ≤ p) {α : Type} (f : α → Int) (xs : List α) : InP p (xs.map fun x => f x % p) := fun y hy => by
  obtain ⟨x, _, rfl⟩ := List.mem_map.mp hy
  exact ⟨Int.emod_nonneg _ (by omega), Int.emod_lt_of_pos _ (by omega)⟩
theorem foldS_len {p x : Int} {t : List Int} : (foldS p t x).length = t.length / 2 := by
  unfold foldS
  rw [List.length_map, List.length_range]
theorem foldS_in {p x : Int} (hp : 2 ≤ p) {t : List Int} : InP p (foldS p t x) := by
  unfold foldS
  exact inP_mod hp _ _
theorem rd_fold : ∀ ds m Φ Ψ, ds.length = 3 → C_fold ds m Φ Ψ → W_fold { nx := fun _ m' => Φ .non m', rt := Φ } (fun _ => Ψ) (ds.map some ++ List.replicate (5 - ds.length) none) m := by
  intro ds m Φ Ψ _ h
  obtain ⟨t, x, p, rfl, ⟨hp, hp2⟩, ht, hl, q⟩ := h
  change W_fold _ _ [some (D.lst (t.map D.int)), some (.int x), some (.int p), none, none] m
  unfold W_fold
  walk_at "dl"
  have h2 : (((t.length : Nat) : Int) / 2).toNat = t.length / 2 := by omega
  refine ⟨⟨by decide, by decide⟩, ⟨by omega, by omega⟩, ?_⟩
  rw [h2]
  simp only [rngD0]
  refine lcW_fn (out := D.int) (fun k : Nat => (gi t (2 * (k : Nat)) + x * (gi t (2 * (k : Nat) + 1) - gi t (2 * (k : Nat)))) % p) _ (List.range (t.length / 2)) (fun k hk m2 Θ hΘ => ?_) (fun _ => rfl) (by rw [List.length_range]; show _ ≤ 16777216; omega) q
  have hk := List.mem_range.mp hk
  have g0 := ht.gi (z := 2 * (k : Nat)) (by omega) (by omega)
  have g1 := ht.gi (z := 2 * (k : Nat) + 1) (by omega) (by omega)
  walk_at "dl"
  refine ⟨mulR (by omega) (by omega), _, atI_gi (by omega) (by omega), mulR (by omega) (by omega), _, atI_gi (by omega) (by omega), mulR (by omega) (by omega), _, atI_gi (by omega) (by omega), ?_⟩
  walk_at "dl"
  exact ⟨.inr (.inl ⟨by omega, by omega⟩), by omega, hΘ⟩
/-! ### sums over a comprehension with two walks -/
/-! ### the asker of a sum -/
def sentD : Option (List Int) → D
  | none => .non
  | some vs => .lst (vs.map D.int)
def askF (p cl : Int) (degs : List Int) (j : Nat) (sent : Option (List Int)) : List (String × D) := [("p", .int p), ("claim", .int cl), ("degrees", .lst (degs.map D.int)), ("throws", .hnd j), ("sent", sentD sent)]
structure Ask (m : MM) (k j : Nat) (p cl : Int) (degs ths : List Int) (sent : Option (List Int)) : Prop where
  ob : m.M[k]? = some (.ins "SumAsker" (askF p cl degs j sent))
  th : m.M[j]? = some (.lst (ths.map D.int))
  pm : PM p
  pr : Prim p
  lt : ths.length ≤ degs.length
  ld : degs.length ≤ 1000
  se : ∀ vs, sent = some vs → InP p vs ∧ vs.length ≤ 1000 ∧ (vs.length : Int) ≤ p ∧ 0 < vs.length
theorem Ask.ne {m : MM} {k j : Nat} {p cl : Int} {degs ths : List Int} {sent : Option (List Int)} (h : Ask m k j p cl degs ths sent) : k ≠ j := fun e => by
  have a := h.ob
  rw [e, h.th] at a
  cases a
def C_SumAsker_init : DC := fun ds m Φ _ => ∃ (k : Nat) (p cl : Int) (degs : List Int), ds = [.hnd k, .int p, .int cl, .lst (degs.map D.int)] ∧ m.M[k]? = some (.ins "SumAsker" []) ∧ Φ .non ⟨m.M.set k (.ins "SumAsker" (askF p cl degs m.M.length none)) ++ [.lst []], m.s⟩
/-- the fields' classes, as a law has them -/
class Fl_SumAsker (fl : String → List String) : Prop where
  p : (fl "p").contains "SumAsker" = true
  claim : (fl "claim").contains "SumAsker" = true
  degrees : (fl "degrees").contains "SumAsker" = true
  throws : (fl "throws").contains "SumAsker" = true
  sent : (fl "sent").contains "SumAsker" = true
local macro_rules | `(tactic| walk_at "dz") => `(tactic| (walk_at "dx"; (try simp only [Fl_SumAsker.p, Fl_SumAsker.claim, Fl_SumAsker.degrees, Fl_SumAsker.throws, Fl_SumAsker.sent, true_and])))
def W_SumAsker_init (fl : String → List String) : DS := dSeq (dSetF (fl "p") "p" (dVar 1) (dVar 0)) (dSeq (dSetF (fl "claim") "claim" (dVar 2) (dVar 0)) (dSeq (dSetF (fl "degrees") "degrees" (dCB cList (dCons (dVar 3) (dNil))) (dVar 0)) (dSeq (dSetF (fl "throws") "throws" (dLstM (dNil)) (dVar 0)) (dSetF (fl "sent") "sent" (dC .non) (dVar 0)))))
theorem rd_SumAsker_init {fl : String → List String} (F : Fl_SumAsker fl) : ∀ ds m Φ Ψ, ds.length = 4 → C_SumAsker_init ds m Φ Ψ → W_SumAsker_init fl { nx := fun _ m' => Φ .non m', rt := Φ } (fun _ => Ψ) (ds.map some ++ List.replicate (4 - ds.length) none) m := by
  intro ds m Φ Ψ _ h
  obtain ⟨k, p, cl, degs, rfl, hk, q⟩ := h
  change W_SumAsker_init fl _ _ [some (.hnd k), some (.int p), some (.int cl), some (.lst (degs.map D.int))] m
  unfold W_SumAsker_init
  have hkl : k < m.M.length := by
    rcases Nat.lt_or_ge k m.M.length with z | z
    · exact z
    · rw [List.getElem?_eq_none z] at hk; cases hk
  refine dSeq_k fun k1 h1 => ?_
  walk_at "dz"
  simp only [hk]
  walk_at "dz"
  refine ⟨by decide, ?_⟩
  have g1 : ∀ o, (m.M.set k o)[k]? = some o := fun o => List.getElem?_set_self hkl
  have g2 : ∀ o1 o2 : MO, (m.M.set k o1).set k o2 = m.M.set k o2 := fun o1 o2 => List.set_set ..
  have g3 : ∀ o : MO, (m.M.set k o).length = m.M.length := fun o => List.length_set
  subst h1
  refine dSeq_k fun k1 h1 => ?_
  walk_at "dz"
  simp only [g1, g2]
  walk_at "dz"
  refine ⟨by simp [putD], ?_⟩
  subst h1
  refine dSeq_k fun k1 h1 => ?_
  walk_at "dz"
  simp only [g1, g2]
  walk_at "dz"
  refine ⟨by simp [putD], ?_⟩
  subst h1
  have g4 : ∀ (o : MO) (L : List MO), (m.M.set k o ++ L)[k]? = some o := fun o L => by
    rw [List.getElem?_append_left (by rw [g3]; exact hkl)]; exact g1 o
  have g5 : ∀ (o o2 : MO) (L : List MO), (m.M.set k o ++ L).set k o2 = m.M.set k o2 ++ L := fun o o2 L => by
    rw [List.set_append_left _ _ (by rw [g3]; exact hkl), g2]
  refine dSeq_k fun k1 h1 => ?_
  walk_at "dz"
  simp only [g4, g5, g3]
  walk_at "dz"
  refine ⟨by simp [putD], ?_⟩
  subst h1
  walk_at "dz"
  simp only [g4, g5, g3]
  walk_at "dz"
  refine ⟨by simp [putD], ?_⟩
  have e : putD "sent" D.non (putD "throws" (D.hnd m.M.length) (putD "degrees" (D.lst (List.map D.int degs)) (putD "claim" (D.int cl) (putD "p" (D.int p) [])))) = askF p cl degs m.M.length none := by
    simp [putD, askF, sentD]
  rw [e]
  exact ⟨by simp [putD], q⟩
def C_SumAsker_is_done : DC := fun ds m Φ _ => ∃ (k j : Nat) (p cl : Int) (degs ths : List Int) (sent : Option (List Int)), ds = [.hnd k] ∧ Ask m k j p cl degs ths sent ∧ Φ (.bl (decide (ths.length = degs.length))) m
def W_SumAsker_is_done (fl : String → List String) : DS := dRet (dOp oEq (dCB cLen (dCons (dFld (fl "throws") "throws" (dVar 0)) (dNil))) (dCB cLen (dCons (dFld (fl "degrees") "degrees" (dVar 0)) (dNil))))
theorem rd_SumAsker_is_done {fl : String → List String} (F : Fl_SumAsker fl) : ∀ ds m Φ Ψ, ds.length = 1 → C_SumAsker_is_done ds m Φ Ψ → W_SumAsker_is_done fl { nx := fun _ m' => Φ .non m', rt := Φ } (fun _ => Ψ) (ds.map some ++ List.replicate (1 - ds.length) none) m := by
  intro ds m Φ Ψ _ h
  obtain ⟨k, j, p, cl, degs, ths, sent, rfl, a, q⟩ := h
  change W_SumAsker_is_done fl _ _ [some (.hnd k)] m
  unfold W_SumAsker_is_done
  have ob := a.ob
  have th := a.th
  unfold askF at ob
  walk_at "dz"
  simp only [ob, th]
  walk_at "dz"
  refine ⟨.hnd j, rfl, ?_⟩
  walk_at "dz"
  simp only [th]
  walk_at "dz"
  refine ⟨.lst (degs.map D.int), rfl, ?_⟩
  walk_at "dz"
  have e : decide (((ths.length : Nat) : Int) = ((degs.length : Nat) : Int)) = decide (ths.length = degs.length) := decide_eq_decide.mpr (by omega)
  first | (rw [e]; exact q) | (simp only [List.length_map] at *; rw [e]; exact q)
def askC (vs : List Int) (p cl : Int) (degs ths : List Int) : Bool := decide ((vs.length : Int) = gi degs (ths.length : Nat) + 1) && (vs.all (fun v => decide (0 ≤ v ∧ v < p)) && decide (cornV vs p = cl))
def C_SumAsker_throw : DC := fun ds m Φ Ψ => ∃ (k j : Nat) (p cl t : Int) (degs ths : List Int) (sent : Option (List Int)), ds = [.hnd k, .int t] ∧ Ask m k j p cl degs ths sent ∧ (sent = none → Ψ "TalkError" [("step", .str (PySem.Str.ofString "throw"))] m) ∧
  ∀ vs, sent = some vs → 0 ≤ t ∧ Φ .non ⟨(m.M.set k (.ins "SumAsker" (askF p (valV vs t p) degs j none))).set j (.lst ((ths ++ [t]).map D.int)), m.s⟩
def W_SumAsker_throw (fl : String → List String) : DS := dSeq (dIf (dB (dOp oIsN (dFld (fl "sent") "sent" (dVar 0)) (dC .non))) (dRaise "TalkError" ["step"] (dCons (dC (.str (PySem.Str.ofString "throw"))) (dNil))) (dNext)) (dSeq (dSetF (fl "claim") "claim" (dCall 3 C_value (dCons (dFld (fl "sent") "sent" (dVar 0)) (dCons (dVar 1) (dCons (dFld (fl "p") "p" (dVar 0)) (dNil))))) (dVar 0)) (dSeq (dDrop (dMethL oApp (dFld (fl "throws") "throws" (dVar 0)) (dCons (dVar 1) (dNil)))) (dSetF (fl "sent") "sent" (dC .non) (dVar 0))))
theorem rd_SumAsker_throw {fl : String → List String} (F : Fl_SumAsker fl) : ∀ ds m Φ Ψ, ds.length = 2 → C_SumAsker_throw ds m Φ Ψ → W_SumAsker_throw fl { nx := fun _ m' => Φ .non m', rt := Φ } (fun _ => Ψ) (ds.map some ++ List.replicate (2 - ds.length) none) m := by
  intro ds m Φ Ψ _ h
  obtain ⟨k, j, p, cl, t, degs, ths, sent, rfl, a, q1, q2⟩ := h
  change W_SumAsker_throw fl _ _ [some (.hnd k), some (.int t)] m
  unfold W_SumAsker_throw
  have ob := a.ob
  have th := a.th
  have nkj := a.ne
  have ll := a.lt
  have ld := a.ld
  have hkl : k < m.M.length := by
    rcases Nat.lt_or_ge k m.M.length with z | z
    · exact z
    · rw [List.getElem?_eq_none z] at ob; cases ob
  have hjl : j < m.M.length := by
    rcases Nat.lt_or_ge j m.M.length with z | z
    · exact z
    · rw [List.getElem?_eq_none z] at th; cases th
  unfold askF at ob
  refine dSeq_k fun k1 h1 => ?_
  walk_at "dz"
  simp only [ob]
  walk_at "dz"
  refine ⟨sentD sent, rfl, ?_⟩
  cases sent with
  | none =>
    unfold sentD
    walk_at "dz"
    exact q1 rfl
  | some vs =>
    obtain ⟨t0, q⟩ := q2 vs rfl
    obtain ⟨v1, v2, v3, v4⟩ := a.se vs rfl
    unfold sentD at ob ⊢
    walk_at "dz"
    subst h1
    refine dSeq_k fun k1 h1 => ?_
    walk_at "dz"
    simp only [ob]
    walk_at "dz"
    refine ⟨_, rfl, _, rfl, vs, t, p, rfl, a.pm, a.pr, v1, v2, v3, t0, ?_⟩
    simp only [ob]
    walk_at "dz"
    have g1 : ∀ o, (m.M.set k o)[k]? = some o := fun o => List.getElem?_set_self hkl
    have g2 : ∀ o1 o2 : MO, (m.M.set k o1).set k o2 = m.M.set k o2 := fun o1 o2 => List.set_set ..
    have g3 : ∀ o : MO, (m.M.set k o)[j]? = some (MO.lst (ths.map D.int)) := fun o => by rw [List.getElem?_set_ne nkj]; exact th
    have g4 : ∀ o o2 : MO, ((m.M.set k o).set j o2)[k]? = some o := fun o o2 => by rw [List.getElem?_set_ne (Ne.symm nkj)]; exact g1 o
    have g5 : ∀ o o2 o3 : MO, ((m.M.set k o).set j o2).set k o3 = (m.M.set k o3).set j o2 := fun o o2 o3 => by rw [List.set_comm _ _ (Ne.symm nkj), g2]
    refine ⟨by simp, ?_⟩
    subst h1
    refine dSeq_k fun k1 h1 => ?_
    walk_at "dz"
    simp only [g1, g3]
    simp only [putD, reduceIte, String.reduceEq]
    refine ⟨F.throws, .hnd j, rfl, ?_⟩
    walk_at "dz"
    simp only [g3, moL_lst]
    refine ⟨rfl, by show _ < 16777216; rw [List.length_map]; omega, ?_⟩
    subst h1
    walk_at "dz"
    simp only [g4, g5]
    refine ⟨F.sent, by simp, ?_⟩
    rw [List.map_append] at q
    simpa [putD, askF, sentD] using q
def C_SumAsker_accept : DC := fun ds m Φ Ψ => ∃ (k j : Nat) (p cl : Int) (degs ths : List Int) (sent : Option (List Int)) (vs : List Int), ds = [.hnd k, .lst (vs.map D.int)] ∧ Ask m k j p cl degs ths sent ∧ vs.length ≤ 1000 ∧
  (¬ (ths.length < degs.length ∧ sent = none) → Ψ "TalkError" [("step", .str (PySem.Str.ofString "polynomial"))] m) ∧
  (ths.length < degs.length → sent = none → 0 ≤ gi degs (ths.length : Nat) ∧ Φ (.bl (askC vs p cl degs ths)) ⟨if askC vs p cl degs ths = true then m.M.set k (.ins "SumAsker" (askF p cl degs j (some vs))) else m.M, m.s⟩)
def W_SumAsker_accept (fl : String → List String) : DS := dSeq (dIf (dOr (dB (dMeth [("SumAsker", C_SumAsker_is_done)] "is_done" 0 (dVar 0) dNil)) (dB (dOp oNotN (dFld (fl "sent") "sent" (dVar 0)) (dC .non)))) (dRaise "TalkError" ["step"] (dCons (dC (.str (PySem.Str.ofString "polynomial"))) (dNil))) (dNext)) (dSeq (dIf (dB (dOp oNe (dCB cLen (dCons (dVar 1) (dNil))) (dOp oAdd (dOp oIx (dFld (fl "degrees") "degrees" (dVar 0)) (dCB cLen (dCons (dFld (fl "throws") "throws" (dVar 0)) (dNil)))) (dC (.int 1))))) (dRet (dC (.bl false))) (dNext)) (dSeq (dIf (dNot (dB (dCB cAll (dCons (dLc (diList (dVar 1)) (dgName 2) (dYes) (dCall 2 C_is_number (dCons (dVar 2) (dCons (dFld (fl "p") "p" (dVar 0)) (dNil)))) [2]) (dNil))))) (dRet (dC (.bl false))) (dNext)) (dSeq (dIf (dB (dOp oNe (dCall 2 C_corners (dCons (dVar 1) (dCons (dFld (fl "p") "p" (dVar 0)) (dNil)))) (dFld (fl "claim") "claim" (dVar 0)))) (dRet (dC (.bl false))) (dNext)) (dSeq (dSetF (fl "sent") "sent" (dCB cList (dCons (dVar 1) (dNil))) (dVar 0)) (dRet (dC (.bl true)))))))
theorem rd_SumAsker_accept {fl : String → List String} (F : Fl_SumAsker fl) : ∀ ds m Φ Ψ, ds.length = 2 → C_SumAsker_accept ds m Φ Ψ → W_SumAsker_accept fl { nx := fun _ m' => Φ .non m', rt := Φ } (fun _ => Ψ) (ds.map some ++ List.replicate (3 - ds.length) none) m := by
  intro ds m Φ Ψ _ h
  obtain ⟨k, j, p, cl, degs, ths, sent, vs, rfl, a, hvl, q1, q2⟩ := h
  change W_SumAsker_accept fl _ _ [some (.hnd k), some (.lst (vs.map D.int)), none] m
  unfold W_SumAsker_accept
  have ob := a.ob
  have th := a.th
  have ll := a.lt
  have ld := a.ld
  have hp1 := a.pm.1
  have hkl : k < m.M.length := by
    rcases Nat.lt_or_ge k m.M.length with z | z
    · exact z
    · rw [List.getElem?_eq_none z] at ob; cases ob
  have ob' := ob
  unfold askF at ob
  refine dSeq_k fun k1 h1 => ?_
  walk_at "dz"
  simp only [ob]
  walk_at "dz"
  refine ⟨rfl, k, j, p, cl, degs, ths, sent, rfl, a, ?_⟩
  walk_at "dz"
  by_cases hdn : ths.length = degs.length
  · rw [if_pos hdn]
    exact q1 (fun z => by omega)
  rw [if_neg hdn]
  simp only [ob]
  refine ⟨F.sent, sentD sent, rfl, ?_⟩
  cases sent with
  | some vs' =>
    unfold sentD
    walk_at "dz"
    exact q1 (fun z => by cases z.2)
  | none =>
    obtain ⟨d0, q⟩ := q2 (by omega) rfl
    unfold sentD at ob ⊢
    walk_at "dz"
    subst h1
    refine dSeq_k fun k1 h1 => ?_
    walk_at "dz"
    simp only [ob]
    refine ⟨F.degrees, .lst (degs.map D.int), rfl, F.throws, .hnd j, rfl, ?_⟩
    walk_at "dz"
    simp only [th, moL_lst]
    refine ⟨.int (gi degs (ths.length : Nat)), by rw [List.length_map]; exact atI_gi (by omega) (by omega), ?_⟩
    walk_at "dz"
    have bad : askC vs p cl degs ths = false → Φ (.bl false) m := fun z => by
      rw [z, if_neg (by decide)] at q
      exact q
    by_cases e1 : (vs.length : Int) = gi degs (ths.length : Nat) + 1
    rotate_left
    · rw [if_pos e1]
      exact bad (by unfold askC; rw [decide_eq_false e1]; rfl)
    rw [if_neg (fun z => z e1)]
    subst h1
    refine dSeq_k fun k1 h1 => ?_
    walk_at "dz"
    refine lcW_fnM (inj := D.int) (out := D.bl) (fun v => decide (0 ≤ v ∧ v < p)) m vs ?_ (fun _ => rfl) (by show _ ≤ 16777216; omega) ?_
    · intro v hv acc Θ hΘ
      have ob2 : (m.M ++ [MO.lst acc])[k]? = m.M[k]? := List.getElem?_append_left hkl
      walk_at "dz"
      simp only [ob2, ob]
      refine ⟨F.p, .int p, rfl, v, p, rfl, hΘ⟩
    walk_at "dz"
    have eb : (vs.map fun v => decide (0 ≤ v ∧ v < p)).all id = vs.all fun v => decide (0 ≤ v ∧ v < p) := by rw [List.all_map]; rfl
    have bm : ∀ bs : List Bool, blsD (bs.map D.bl) = some bs := fun bs => by
      induction bs with
      | nil => rfl
      | cons b bs ih => show (blsD (bs.map D.bl)).map (b :: ·) = _; rw [ih]; rfl
    refine ⟨_, bm _, ?_⟩
    rw [eb]
    cases e2 : vs.all fun v => decide (0 ≤ v ∧ v < p) with
    | false =>
      rw [if_pos rfl]
      exact bad (by unfold askC; rw [e2]; simp)
    | true =>
      rw [if_neg (by decide)]
      have vi : InP p vs := fun x hx => of_decide_eq_true (List.all_eq_true.mp e2 x hx)
      subst h1
      refine dSeq_k fun k1 h1 => ?_
      walk_at "dz"
      simp only [ob]
      refine ⟨F.p, .int p, rfl, vs, p, rfl, a.pm, vi, by omega, ?_⟩
      walk_at "dz"
      simp only [ob]
      refine ⟨F.claim, .int cl, rfl, ?_⟩
      walk_at "dz"
      by_cases e3 : cornV vs p = cl
      rotate_left
      · rw [if_pos e3]
        exact bad (by unfold askC; rw [e2, decide_eq_false e3]; simp)
      rw [if_neg (fun z => z e3)]
      have z : askC vs p cl degs ths = true := by unfold askC; rw [e2, decide_eq_true e3, decide_eq_true e1]; rfl
      rw [z, if_pos rfl] at q
      subst h1
      refine dSeq_k fun k1 h1 => ?_
      walk_at "dz"
      simp only [ob]
      refine ⟨F.sent, by simp, ?_⟩
      subst h1
      walk_at "dz"
      simpa [putD, askF, sentD] using q



def lnP (k : Nat) (pt : List Int) (p : Int) : Nat → Int
  | 0 => 1
  | j + 1 => lnP k pt p j * (if k / 2 ^ j % 2 = 1 then gi pt (j : Nat) else 1 - gi pt (j : Nat)) % p
def lval (t pt : List Int) (p : Int) : Int := (S t.length fun k => gi t (k : Nat) * lnP k pt p pt.length) % p
def C__law_near : DC := fun ds m Φ _ => ∃ (k : Nat) (pt : List Int) (p : Int), ds = [.int k, .lst (pt.map D.int), .int p] ∧ PM p ∧ InP p pt ∧ pt.length ≤ 5 ∧ Φ (.int (lnP k pt p pt.length)) m
def C__law_value : DC := fun ds m Φ _ => ∃ (t pt : List Int) (p : Int), ds = [.lst (t.map D.int), .lst (pt.map D.int), .int p] ∧ PM p ∧ InP p t ∧ InP p pt ∧ pt.length ≤ 5 ∧ t.length ≤ 65536 ∧ Φ (.int (lval t pt p)) m
def W__law_value : DS := dRet (dOp oMod (dCB cInt (dCons (dCB cSum (dCons (dLc (diRng1 (dCons (dCB cLen (dCons (dVar 0) (dNil))) (dNil))) (dgName 3) (dYes) (dOp oMul (dOp oIx (dVar 0) (dVar 3)) (dCall 3 C__law_near (dCons (dVar 3) (dCons (dVar 1) (dCons (dVar 2) (dNil)))))) [3]) (dNil))) (dNil))) (dVar 2))
theorem rd__law_value : ∀ ds m Φ Ψ, ds.length = 3 → C__law_value ds m Φ Ψ → W__law_value { nx := fun _ m' => Φ .non m', rt := Φ } (fun _ => Ψ) (ds.map some ++ List.replicate (4 - ds.length) none) m := by
  intro ds m Φ Ψ _ h
  obtain ⟨t, pt, p, rfl, hp, ht, hpt, hl, hl2, q⟩ := h
  have hp1 := hp.1
  have hp2 := hp.2
  change W__law_value _ _ [some (D.lst (t.map D.int)), some (D.lst (pt.map D.int)), some (.int p), none] m
  unfold W__law_value
  walk_at "dl"
  refine ⟨⟨by omega, by omega⟩, ?_⟩
  simp only [rngD0, Int.toNat_natCast]
  refine lcW_fn (out := D.int) (fun k : Nat => gi t (k : Nat) * lnP k pt p pt.length) _ (List.range t.length) (fun k hk m2 Θ hΘ => ?_) (fun _ => rfl) (by rw [List.length_range]; show _ ≤ 16777216; omega) ?_
  · have hk := List.mem_range.mp hk
    have hg := ht.gN hk
    walk_at "dl"
    refine ⟨_, atI_gi (by omega) (by omega), k, pt, p, rfl, hp, hpt, hl, ?_⟩
    walk_at "dl"
    exact ⟨mulL hg.1 (by omega), hΘ⟩
  · walk_at "dl"
    refine ⟨_, ints_map _, ?_⟩
    walk_at "dl"
    rw [sum_S]
    exact ⟨by omega, q⟩
def corn (i left : Nat) : List Int := (List.range left).map fun j : Nat => ((i / 2 ^ j % 2 : Nat) : Int)
theorem cutT {xs : List D} {k : Nat} (h : k ≤ xs.length) : cutD xs none (some (k : Nat)) = xs.take k := by
  unfold cutD
  rw [HT.sIx_none, HT.sIx_nat, List.drop_zero, Nat.min_eq_left h, Nat.sub_zero]
theorem cutR {xs : List D} {k : Nat} (h : k ≤ xs.length) : cutD xs (some (k : Nat)) none = xs.drop k := by
  unfold cutD
  rw [HT.sIx_none, HT.sIx_nat, Nat.min_eq_left h, List.take_of_length_le (by rw [List.length_drop]; omega)]
/-! ### the plain law: sums over corners, one variable at a time -/
theorem sum_cg {α : Type} {p : Int} {f g : α → Int} : ∀ (xs : List α), (∀ x ∈ xs, Cg p (f x) (g x)) → Cg p (xs.map f).sum (xs.map g).sum
  | [], _ => .refl
  | x :: xs, h => by
    rw [List.map_cons, List.map_cons, List.sum_cons, List.sum_cons]
    exact (h x (List.mem_cons_self ..)).add (sum_cg xs fun y hy => h y (List.mem_cons_of_mem _ hy))
theorem lsum_pol {p : Int} {n : Nat} {α : Type} {F : α → Int → Int} : ∀ xs : List α, (∀ x ∈ xs, Pol p n (F x)) → Pol p n fun t => (xs.map fun x => F x t).sum
  | [], _ => Pol.const 0
  | x :: xs, h => (h x (List.mem_cons_self ..)).add (lsum_pol xs fun y hy => h y (List.mem_cons_of_mem _ hy))
theorem foldS_wt {p : Int} : ∀ (pt t : List Int), t.length = 2 ^ pt.length → Cg p (gi (pt.foldl (foldS p) t) 0) (S (2 ^ pt.length) fun z => wt pt z * gi t (z : Nat))
  | [], t, h => by
    show Cg p (gi t 0) (0 + 1 * gi t 0)
    rw [Int.zero_add, Int.one_mul]
    exact .refl
  | x :: r, t, h => by
    rw [List.length_cons, Nat.pow_succ] at h
    have hl : (foldS p t x).length = 2 ^ r.length := by rw [foldS_len]; omega
    refine (foldS_wt (p := p) r (foldS p t x) hl).trans ?_
    rw [List.length_cons, Nat.pow_succ, Nat.mul_comm, S_pair]
    refine S_cg _ fun i hi => ?_
    have e : gi (foldS p t x) (i : Nat) = (gi t (2 * (i : Nat)) + x * (gi t (2 * (i : Nat) + 1) - gi t (2 * (i : Nat)))) % p := by
      unfold foldS
      rw [gi_range (by omega)]
    rw [e]
    have e2 : wt (x :: r) (2 * i) = (1 - x) * wt r i := by
      show (if 2 * i % 2 = 1 then x else 1 - x) * wt r (2 * i / 2) = _
      rw [if_neg (by omega), show 2 * i / 2 = i by omega]
    have e3 : wt (x :: r) (2 * i + 1) = x * wt r i := by
      show (if (2 * i + 1) % 2 = 1 then x else 1 - x) * wt r ((2 * i + 1) / 2) = _
      rw [if_pos (by omega), show (2 * i + 1) / 2 = i by omega]
    rw [e2, e3]
    have e4 : ((2 * i : Nat) : Int) = 2 * (i : Nat) := by omega
    have e5 : ((2 * i + 1 : Nat) : Int) = 2 * (i : Nat) + 1 := by omega
    rw [e4, e5]
    refine (Cg.mul .refl Cg.mod).trans (.of_eq ?_)
    grind
theorem foldl_len {p : Int} : ∀ (pt : List Int) (t : List Int) (l : Nat), t.length = 2 ^ (pt.length + l) → (pt.foldl (foldS p) t).length = 2 ^ l
  | [], t, l, h => by simpa using h
  | x :: pt, t, l, h => foldl_len pt _ l (by rw [foldS_len, h, List.length_cons, show pt.length + 1 + l = (pt.length + l) + 1 by omega, Nat.pow_succ]; omega)
theorem corn_succ {i l : Nat} : corn i (l + 1) = ((i % 2 : Nat) : Int) :: corn (i / 2) l := by
  unfold corn
  rw [List.range_succ_eq_map, List.map_cons, List.map_map]
  congr 1
  · rw [Nat.pow_zero, Nat.div_one]
  · refine List.map_congr_left fun j _ => ?_
    show ((i / 2 ^ (j + 1) % 2 : Nat) : Int) = _
    rw [Nat.div_div_eq_div_mul, ← Nat.pow_succ']
theorem sum_S_swap {α : Type} {F : α → Nat → Int} {N : Nat} : ∀ T : List α, (T.map fun row => S N (F row)).sum = S N fun a => (T.map fun row => F row a).sum
  | [] => by
    show (0 : Int) = S N fun _ => 0
    induction N with
    | zero => rfl
    | succ N ih => show (0 : Int) = S N _ + 0; omega
  | row :: T => by
    rw [List.map_cons, List.sum_cons, sum_S_swap T, ← S_add]
    rfl
theorem rep_flat {x : Int} : ∀ n : Nat, (List.replicate n [D.int x]).flatten = (List.replicate n x).map D.int
  | 0 => rfl
  | n + 1 => by rw [List.replicate_succ, List.flatten_cons, rep_flat n]; rfl
/-! ### polynomials by any values -/
theorem S_one {f : Nat → Int} {i : Nat} (h : ∀ k, k ≠ i → f k = 0) : ∀ n : Nat, S n f = if i < n then f i else 0
  | 0 => rfl
  | n + 1 => by
    show S n f + f n = _
    rw [S_one h n]
    by_cases z : i < n
    · rw [if_pos z, if_pos (by omega), h n (by omega)]; omega
    · rw [if_neg z]
      by_cases e : n = i
      · subst e; rw [if_pos (by omega)]; omega
      · rw [if_neg (by omega), h n e]; omega
/-- two polynomials by values -/
def sameV (a b : List Int) (p : Int) : Bool := (List.range (max a.length b.length)).all fun t : Nat => decide (valV a (t : Nat) p = valV b (t : Nat) p)
theorem valV_nat {a : List Int} {p : Int} {t : Nat} (h : t < a.length) : valV a (t : Nat) p = gi a (t : Nat) := by unfold valV; rw [if_pos (by omega)]
def C_same : DC := fun ds m Φ _ => ∃ (a b : List Int) (p : Int), ds = [.lst (a.map D.int), .lst (b.map D.int), .int p] ∧ PM p ∧ Prim p ∧ InP p a ∧ InP p b ∧ a.length ≤ 1000 ∧ b.length ≤ 1000 ∧ (a.length : Int) ≤ p ∧ (b.length : Int) ≤ p ∧ Φ (.bl (sameV a b p)) m
def W_same : DS := dSeq (dSet 3 (dCB cMax2 (dCons (dCB cLen (dCons (dVar 0) (dNil))) (dCons (dCB cLen (dCons (dVar 1) (dNil))) (dNil))))) (dSeq (dFor (diRng1 (dCons (dVar 3) (dNil))) (dgName 4) (dIf (dB (dOp oNe (dCall 3 C_value (dCons (dVar 0) (dCons (dVar 4) (dCons (dVar 2) (dNil))))) (dCall 3 C_value (dCons (dVar 1) (dCons (dVar 4) (dCons (dVar 2) (dNil))))))) (dRet (dC (.bl false))) (dNext))) (dRet (dC (.bl true))))
theorem rd_same : ∀ ds m Φ Ψ, ds.length = 3 → C_same ds m Φ Ψ → W_same { nx := fun _ m' => Φ .non m', rt := Φ } (fun _ => Ψ) (ds.map some ++ List.replicate (5 - ds.length) none) m := by
  intro ds m Φ Ψ _ h
  obtain ⟨a, b, p, rfl, hp, P, ha, hb, a1, b1, ap, bp, q⟩ := h
  have hp1 := hp.1
  change W_same _ _ [some (D.lst (a.map D.int)), some (D.lst (b.map D.int)), some (.int p), none, none] m
  unfold W_same
  walk_at "stp"
  have em : (if ((b.length : Nat) : Int) > (a.length : Nat) then ((b.length : Nat) : Int) else (a.length : Nat)) = ((max a.length b.length : Nat) : Int) := by
    split <;> omega
  rw [em]
  walk_at "nxt"
  refine ⟨⟨by omega, by omega⟩, ?_⟩
  simp only [rngD0, Int.toNat_natCast]
  refine forW_nat (fun k ρ m' => ∃ (v4 : Option D), ρ = [some (D.lst (a.map D.int)), some (D.lst (b.map D.int)), some (.int p), some (.int ((max a.length b.length : Nat) : Int)), v4] ∧ m' = m ∧ ∀ i < k, valV a (i : Nat) p = valV b (i : Nat) p) ?_ ?_ ⟨_, rfl, rfl, fun i hi => by omega⟩
  · rintro k kk hk hkk ρ m' ⟨v4, rfl, rfl, hall⟩
    walk_at "dx"
    refine ⟨a, k, p, rfl, hp, P, ha, a1, ap, by omega, ?_⟩
    refine ⟨b, k, p, rfl, hp, P, hb, b1, bp, by omega, ?_⟩
    walk_at "dx"
    by_cases e : valV a (k : Nat) p = valV b (k : Nat) p
    · rw [if_neg (by simpa using e)]
      exact hkk _ _ ⟨_, rfl, rfl, fun i hi => by
        by_cases z : i = k
        · rw [z]; exact e
        · exact hall i (by omega)⟩
    · rw [if_pos (by simpa using e)]
      have : sameV a b p = false := by
        unfold sameV
        rw [List.all_eq_false]
        exact ⟨k, List.mem_range.mpr hk, by simpa using e⟩
      rw [this] at q
      exact q
  · rintro ρ m' ⟨v4, rfl, rfl, hall⟩
    walk_at "lst"
    have : sameV a b p = true := by
      unfold sameV
      rw [List.all_eq_true]
      exact fun i hi => decide_eq_true (hall i (List.mem_range.mp hi))
    rw [this] at q
    exact q
/-! ### cubes -/
def ptStep (p : Int) (t : List Int) (x : Int) : List Int := t.map (fun e => (1 - x) * e % p) ++ t.map (fun e => x * e % p)
def pointT (pt : List Int) (p : Int) : List Int := pt.foldl (ptStep p) [1 % p]
def C_point_table : DC := fun ds m Φ _ => ∃ (pt : List Int) (p : Int), ds = [.lst (pt.map D.int), .int p] ∧ PM p ∧ pt.length ≤ 16 ∧ Φ (.lst ((pointT pt p).map D.int)) m
def valAt (t pt : List Int) (p : Int) : Int := gi (pt.foldl (foldS p) t) 0 % p
def lineV (one two : List Int) (t p : Int) : List Int := (List.range one.length).map fun k => (gi one (k : Nat) + t * (gi two (k : Nat) - gi one (k : Nat))) % p
def C_value_at : DC := fun ds m Φ _ => ∃ (t pt : List Int) (p : Int), ds = [.lst (t.map D.int), .lst (pt.map D.int), .int p] ∧ PM p ∧ InP p t ∧ t.length = 2 ^ pt.length ∧ pt.length ≤ 16 ∧ Φ (.int (valAt t pt p)) m
theorem ptStep_len {p x : Int} {t : List Int} : (ptStep p t x).length = 2 * t.length := by
  unfold ptStep
  rw [List.length_append, List.length_map, List.length_map]; omega
theorem ptStep_in {p x : Int} (hp : 2 ≤ p) {t : List Int} : InP p (ptStep p t x) := fun y hy => by
  unfold ptStep at hy
  rcases List.mem_append.mp hy with h | h
  · exact inP_mod hp (fun e => (1 - x) * e) t y h
  · exact inP_mod hp (fun e => x * e) t y h
def W_point_table : DS := dSeq (dSet 2 (dLst (dCons (dOp oMod (dC (.int 1)) (dVar 1)) (dNil)))) (dSeq (dFor (diList (dVar 0)) (dgName 3) (dSeq (dSet 4 (dLc (diList (dVar 2)) (dgName 6) (dYes) (dOp oMod (dOp oMul (dOp oSub (dC (.int 1)) (dVar 3)) (dVar 6)) (dVar 1)) [6])) (dSeq (dSet 5 (dLc (diList (dVar 2)) (dgName 6) (dYes) (dOp oMod (dOp oMul (dVar 3) (dVar 6)) (dVar 1)) [6])) (dSet 2 (dOp oAdd (dVar 4) (dVar 5)))))) (dRet (dVar 2)))
theorem rd_point_table : ∀ ds m Φ Ψ, ds.length = 2 → C_point_table ds m Φ Ψ → W_point_table { nx := fun _ m' => Φ .non m', rt := Φ } (fun _ => Ψ) (ds.map some ++ List.replicate (7 - ds.length) none) m := by
  intro ds m Φ Ψ _ h
  obtain ⟨pt, p, rfl, ⟨hp, hp2⟩, hl, q⟩ := h
  change W_point_table _ _ [some (D.lst (pt.map D.int)), some (.int p), none, none, none, none, none] m
  unfold W_point_table
  walk_at "dl"
  refine ⟨by omega, by decide, ?_⟩
  refine forW_map (inj := D.int) (fun r ρ m' => ∃ (t : List Int) (a b c d : Option D), ρ = [some (D.lst (pt.map D.int)), some (.int p), some (.lst (t.map D.int)), a, b, c, d] ∧ m' = m ∧ InP p t ∧ t.length * 2 ^ r.length ≤ 65536 ∧ r.foldl (ptStep p) t = pointT pt p) ?_ ?_ pt _ _ ⟨[1 % p], none, none, none, none, rfl, rfl, ?_, ?_, rfl⟩
  · rintro x r kk hk ρ m' ⟨t, a, b, c, d, rfl, rfl, ht, hz, hf⟩
    have hlen : t.length ≤ 65536 := by
      have h1 : t.length * 1 ≤ t.length * 2 ^ (x :: r).length := Nat.mul_le_mul_left _ (Nat.one_le_two_pow)
      omega
    walk_at "dl"
    refine lcW_fn (out := D.int) (fun e => (1 - x) * e % p) _ t (fun e he m2 Θ hΘ => ?_) (fun _ => rfl) (by show t.length ≤ 16777216; omega) ?_
    · walk_at "dl"
      exact ⟨mulR (ht e he).1 (by have := (ht e he).2; omega), by omega, hΘ⟩
    walk_at "dl"
    refine lcW_fn (out := D.int) (fun e => x * e % p) _ t (fun e he m2 Θ hΘ => ?_) (fun _ => rfl) (by show t.length ≤ 16777216; omega) ?_
    · walk_at "dl"
      exact ⟨mulR (ht e he).1 (by have := (ht e he).2; omega), by omega, hΘ⟩
    walk_at "dl"
    refine ⟨by show t.length + t.length ≤ 16777216; omega, ?_⟩
    rw [← List.map_append]
    change kk [some (D.lst (List.map D.int pt)), some (.int p), some (D.lst ((ptStep p t x).map D.int)), _, _, _, _] m'
    refine hk _ _ ⟨ptStep p t x, _, _, _, _, rfl, rfl, ptStep_in hp, ?_, hf⟩
    · rw [ptStep_len]
      rw [List.length_cons, Nat.pow_succ] at hz
      rw [Nat.mul_comm 2 t.length, Nat.mul_assoc, Nat.mul_comm 2 (2 ^ r.length)]
      exact hz
  · rintro ρ m' ⟨t, a, b, c, d, rfl, rfl, ht, hz, hf⟩
    walk_at "dl"
    have e : t = pointT pt p := hf
    rw [e]
    exact q
  · intro y hy
    have e : y = 1 % p := by simpa using hy
    rw [e]
    exact ⟨Int.emod_nonneg _ (by omega), Int.emod_lt_of_pos _ (by omega)⟩
  · have h1 : 2 ^ pt.length ≤ 2 ^ 16 := Nat.pow_le_pow_right (by decide) hl
    have h2 : (2 : Nat) ^ 16 = 65536 := by decide
    rw [List.length_singleton]; omega
theorem ptFold_len (p : Int) : ∀ (pt t : List Int), (pt.foldl (ptStep p) t).length = t.length * 2 ^ pt.length
  | [], t => by simp
  | x :: r, t => by
    rw [List.foldl_cons, ptFold_len p r, ptStep_len, List.length_cons, Nat.pow_succ, Nat.mul_comm 2 t.length, Nat.mul_assoc, Nat.mul_comm 2]
theorem pointT_len {pt : List Int} {p : Int} : (pointT pt p).length = 2 ^ pt.length := by
  unfold pointT
  rw [ptFold_len, List.length_singleton, Nat.one_mul]
theorem ptFold_in {p : Int} (hp : 2 ≤ p) : ∀ (pt t : List Int), InP p t → InP p (pt.foldl (ptStep p) t)
  | [], t, h => h
  | x :: r, t, h => ptFold_in hp r _ (ptStep_in hp)
theorem pointT_in {pt : List Int} {p : Int} (hp : 2 ≤ p) : InP p (pointT pt p) := ptFold_in hp _ _ (inP_mod hp (fun _ => 1) [()])
theorem ptStep_at {p x : Int} {s : List Int} {y b : Nat} (hy : y < s.length) (hb : b < 2) : Cg p (gi (ptStep p s x) ((y + s.length * b : Nat) : Int)) ((if b = 1 then x else 1 - x) * gi s (y : Nat)) := by
  unfold ptStep
  rw [gi_app, List.length_map]
  rcases (show b = 0 ∨ b = 1 by omega) with rfl | rfl
  · rw [Nat.mul_zero, Nat.add_zero, if_pos hy, gi_mapI hy, if_neg (by decide)]
    exact .mod
  · rw [Nat.mul_one, if_neg (by omega), show y + s.length - s.length = y by omega, gi_mapI hy, if_pos rfl]
    exact .mod
theorem ptFold_at {p : Int} : ∀ (r s : List Int) (y z : Nat), y < s.length → z < 2 ^ r.length → Cg p (gi (r.foldl (ptStep p) s) ((y + s.length * z : Nat) : Int)) (gi s (y : Nat) * wt r z)
  | [], s, y, z, hy, hz => by
    have e : z = 0 := by
      have : (2 : Nat) ^ ([] : List Int).length = 1 := rfl
      omega
    subst e
    show Cg p (gi s _) (gi s _ * 1)
    rw [Nat.mul_zero, Nat.add_zero, Int.mul_one]
    exact .refl
  | x :: r, s, y, z, hy, hz => by
    rw [List.length_cons, Nat.pow_succ] at hz
    have hb : z % 2 < 2 := Nat.mod_lt _ (by decide)
    have h1 := ptFold_at (p := p) r (ptStep p s x) (y + s.length * (z % 2)) (z / 2) (by
      rw [ptStep_len]
      have : s.length * (z % 2) ≤ s.length * 1 := Nat.mul_le_mul_left _ (by omega)
      omega) (by omega)
    have h2 := ptStep_at (p := p) (x := x) hy hb
    have e : y + s.length * (z % 2) + (ptStep p s x).length * (z / 2) = y + s.length * z := by
      rw [ptStep_len, Nat.add_assoc]
      have : s.length * (z % 2) + 2 * s.length * (z / 2) = s.length * z := by
        rw [Nat.mul_comm 2, Nat.mul_assoc, ← Nat.mul_add, Nat.mod_add_div]
      rw [this]
    rw [e] at h1
    refine h1.trans ?_
    refine (h2.mul .refl).trans (.of_eq ?_)
    show _ = gi s y * ((if z % 2 = 1 then x else 1 - x) * wt r (z / 2))
    rw [← Int.mul_assoc, Int.mul_comm (gi s y)]
theorem pointT_at {p : Int} {pt : List Int} {z : Nat} (hz : z < 2 ^ pt.length) : Cg p (gi (pointT pt p) (z : Nat)) (wt pt z) := by
  have h := ptFold_at (p := p) pt [1 % p] 0 z (by simp) hz
  rw [List.length_singleton, Nat.one_mul, Nat.zero_add] at h
  refine h.trans ?_
  have : gi [1 % p] ((0 : Nat) : Int) = 1 % p := rfl
  rw [this]
  refine (Cg.mul .mod .refl).trans (.of_eq (Int.one_mul _))
theorem lineV_len {one two : List Int} {t p : Int} : (lineV one two t p).length = one.length := by
  unfold lineV
  rw [List.length_map, List.length_range]
def W_value_at : DS := dSeq (dFor (diList (dVar 1)) (dgName 3) (dSet 0 (dCall 3 C_fold (dCons (dVar 0) (dCons (dVar 3) (dCons (dVar 2) (dNil))))))) (dRet (dOp oMod (dOp oIx (dVar 0) (dC (.int 0))) (dVar 2)))
theorem rd_value_at : ∀ ds m Φ Ψ, ds.length = 3 → C_value_at ds m Φ Ψ → W_value_at { nx := fun _ m' => Φ .non m', rt := Φ } (fun _ => Ψ) (ds.map some ++ List.replicate (4 - ds.length) none) m := by
  intro ds m Φ Ψ _ h
  obtain ⟨t, pt, p, rfl, ⟨hp, hp2⟩, ht, hl, hn, q⟩ := h
  change W_value_at _ _ [some (D.lst (t.map D.int)), some (D.lst (pt.map D.int)), some (.int p), none] m
  unfold W_value_at
  refine dSeq_k fun k1 h1 => ?_
  walk_at "dl"
  refine forW_map (inj := D.int) (fun r ρ m' => ∃ (t' : List Int) (a : Option D), ρ = [some (D.lst (t'.map D.int)), some (D.lst (pt.map D.int)), some (.int p), a] ∧ m' = m ∧ InP p t' ∧ t'.length = 2 ^ r.length ∧ r.length ≤ 16 ∧ r.foldl (foldS p) t' = pt.foldl (foldS p) t) ?_ ?_ pt _ _ ⟨t, none, rfl, rfl, ht, hl, hn, rfl⟩
  · rintro x r kk hk ρ m' ⟨t', a, rfl, rfl, ht', hl', hn', hf⟩
    have h3 : t'.length ≤ 65536 := by
      have h1 : 2 ^ (x :: r).length ≤ 2 ^ 16 := Nat.pow_le_pow_right (by decide) hn'
      have h2 : (2 : Nat) ^ 16 = 65536 := by decide
      omega
    rw [List.length_cons, Nat.pow_succ] at hl'
    walk_at "dl"
    exact ⟨t', x, p, rfl, ⟨hp, hp2⟩, ht', h3, hk _ _ ⟨foldS p t' x, _, rfl, rfl, foldS_in hp, by rw [foldS_len]; omega, by rw [List.length_cons] at hn'; omega, hf⟩⟩
  · rintro ρ m' ⟨t', a, rfl, rfl, ht', hl', hn', hf⟩
    subst h1
    walk_at "dl"
    have e : t' = _ := hf
    refine ⟨_, atI_gi (by decide) (by rw [hl']; decide), ?_⟩
    walk_at "dl"
    refine ⟨by omega, ?_⟩
    rw [e]
    exact q
/-- nearness of two points -/
def nPl : List Int → List Int → Int
  | x :: xs, y :: ys => (x * y + (1 - x) * (1 - y)) * nPl xs ys
  | _, _ => 1
theorem nPl_wt : ∀ xs ys : List Int, xs.length = ys.length → S (2 ^ xs.length) (fun z => wt xs z * wt ys z) = nPl xs ys
  | [], [], _ => rfl
  | [], _ :: _, h => by simp at h
  | _ :: _, [], h => by simp at h
  | x :: xs, y :: ys, h => by
    rw [List.length_cons, Nat.pow_succ, Nat.mul_comm, S_pair]
    show _ = (x * y + (1 - x) * (1 - y)) * nPl xs ys
    rw [← nPl_wt xs ys (by simpa using h), ← S_mul]
    refine S_eq _ fun i _ => ?_
    have e2 : ∀ (a : Int) (r : List Int), wt (a :: r) (2 * i) = (1 - a) * wt r i := fun a r => by
      show (if 2 * i % 2 = 1 then a else 1 - a) * wt r (2 * i / 2) = _
      rw [if_neg (by omega), show 2 * i / 2 = i by omega]
    have e3 : ∀ (a : Int) (r : List Int), wt (a :: r) (2 * i + 1) = a * wt r i := fun a r => by
      show (if (2 * i + 1) % 2 = 1 then a else 1 - a) * wt r ((2 * i + 1) / 2) = _
      rw [if_pos (by omega), show (2 * i + 1) / 2 = i by omega]
    rw [e2, e2, e3, e3]
    grind
/-- a line's point, freed from remainders -/
def lineQ (ab : List (Int × Int)) (t : Int) : List Int := ab.map fun c => c.1 + c.2 * t
theorem lineQ_pol {p : Int} : ∀ (ab : List (Int × Int)) (z : Nat), Pol p ab.length fun t => wt (lineQ ab t) z
  | [], _ => .const 1
  | c :: ab, z => by
    have ih := lineQ_pol (p := p) ab (z / 2)
    by_cases h : z % 2 = 1
    · refine (ih.lin c.1 c.2).congr fun t => .of_eq ?_
      show (if z % 2 = 1 then c.1 + c.2 * t else 1 - (c.1 + c.2 * t)) * wt (lineQ ab t) (z / 2) = _
      rw [if_pos h]
    · refine (ih.lin (1 - c.1) (-c.2)).congr fun t => .of_eq ?_
      show (if z % 2 = 1 then c.1 + c.2 * t else 1 - (c.1 + c.2 * t)) * wt (lineQ ab t) (z / 2) = _
      rw [if_neg h]
      congr 1
      grind
theorem wt_cg {p : Int} : ∀ (xs ys : List Int) (z : Nat), All2 (Cg p) xs ys → Cg p (wt xs z) (wt ys z)
  | _, _, z, .nil => .refl
  | x :: xs, y :: ys, z, .cons h hs => by
    show Cg p ((if z % 2 = 1 then x else 1 - x) * wt xs (z / 2)) ((if z % 2 = 1 then y else 1 - y) * wt ys (z / 2))
    refine Cg.mul ?_ (wt_cg xs ys (z / 2) hs)
    split
    · exact h
    · exact Cg.sub .refl h
theorem all2_map {α β : Type} {R : Int → Int → Prop} {f g : α → Int} : ∀ (xs : List α), (∀ x, R (f x) (g x)) → All2 R (xs.map f) (xs.map g)
  | [], _ => .nil
  | x :: xs, h => .cons (h x) (all2_map (β := β) xs h)
/-! ### objects by what their fields hold -/
theorem look_put {f g : String} {v : D} : ∀ {fs : List (String × D)}, (putD f v fs).lookup g = if f = g then some v else fs.lookup g
  | [] => by
    show ([(f, v)] : List (String × D)).lookup g = _
    rw [List.lookup_cons, List.lookup_nil]
    by_cases e : f = g
    · rw [if_pos e, e, beq_self_eq_true]
    · rw [if_neg e, beq_eq_false_iff_ne.mpr (fun z => e z.symm)]
  | (k, x) :: r => by
    unfold putD
    by_cases e : k = f
    · rw [if_pos e, List.lookup_cons]
      by_cases z : f = g
      · rw [if_pos z, e, z, beq_self_eq_true]
      · rw [if_neg z, List.lookup_cons, e, beq_eq_false_iff_ne.mpr (fun w => z w.symm)]
    · rw [if_neg e, List.lookup_cons, List.lookup_cons, look_put]
      by_cases z : g = k
      · subst z
        have z : ¬ f = g := fun w => e w.symm
        simp [z]
      · rw [beq_eq_false_iff_ne.mpr z]
def keysOf (fs : List (String × D)) : List String := fs.map (·.1)
theorem keys_put {f : String} {v : D} : ∀ {fs : List (String × D)}, keysOf (putD f v fs) = if f ∈ keysOf fs then keysOf fs else keysOf fs ++ [f]
  | [] => rfl
  | (k, x) :: r => by
    unfold putD
    by_cases e : k = f
    · rw [if_pos e, if_pos (by rw [e]; exact List.mem_cons_self)]; rfl
    · rw [if_neg e]
      show k :: keysOf (putD f v r) = if f ∈ k :: keysOf r then k :: keysOf r else k :: keysOf r ++ [f]
      rw [keys_put]
      by_cases z : f ∈ keysOf r
      · rw [if_pos z, if_pos (List.mem_cons_of_mem _ z)]
      · rw [if_neg z, if_neg (fun w => by
          rcases List.mem_cons.mp w with w | w
          · exact e w.symm
          · exact z w)]; rfl
theorem nodup_len {α : Type} [DecidableEq α] : ∀ (l A : List α), l.Nodup → (∀ x ∈ l, x ∈ A) → l.length ≤ A.length
  | [], _, _, _ => Nat.zero_le _
  | x :: l, A, h, s => by
    have hx := s x List.mem_cons_self
    have nd := List.nodup_cons.mp h
    have z := nodup_len l (A.erase x) nd.2 (fun y hy => (List.mem_erase_of_ne (fun e => nd.1 (by rw [← e]; exact hy))).mpr (s y (List.mem_cons_of_mem _ hy)))
    rw [List.length_erase_of_mem hx] at z
    have := List.length_pos_of_mem hx
    rw [List.length_cons]; omega
structure KeysOK (A : List String) (fs : List (String × D)) : Prop where
  nd : (keysOf fs).Nodup
  sub : ∀ x ∈ keysOf fs, x ∈ A
  few : A.length ≤ 100
theorem KeysOK.lt {A : List String} {fs : List (String × D)} (h : KeysOK A fs) : fs.length < 1000 := by
  have z := nodup_len _ A h.nd h.sub
  have := h.few
  unfold keysOf at z
  rw [List.length_map] at z
  omega
theorem KeysOK.put {A : List String} {fs : List (String × D)} {f : String} {v : D} (h : KeysOK A fs) (hf : f ∈ A) : KeysOK A (putD f v fs) := by
  refine ⟨?_, fun x hx => ?_, h.few⟩
  · rw [keys_put]
    split
    · exact h.nd
    · rename_i z
      rw [List.nodup_append]
      refine ⟨h.nd, by simp, fun a ha b hb e => z ?_⟩
      rw [List.mem_singleton] at hb
      rw [← hb, ← e]; exact ha
  · rw [keys_put] at hx
    split at hx
    · exact h.sub x hx
    · rcases List.mem_append.mp hx with z | z
      · exact h.sub x z
      · rw [List.mem_singleton.mp z]; exact hf
theorem KeysOK.nil {A : List String} (h : A.length ≤ 100) : KeysOK A [] := ⟨List.nodup_nil, fun _ h => (by cases h), h⟩
/-! ### the honest answerer's steps -/
structure WG where
  a : Int
  b : Int
  c : Int
  x : Int
  y : Int
def wgD (g : WG) : D := .tup [.int g.a, .int g.b, .int g.c, .int g.x, .int g.y]
def wgOK (p : Int) (n : Nat) (g : WG) : Prop := (0 ≤ g.a ∧ g.a < p) ∧ (0 ≤ g.b ∧ g.b < p) ∧ (0 ≤ g.c ∧ g.c < p) ∧ (0 ≤ g.x ∧ g.x < (n : Int)) ∧ (0 ≤ g.y ∧ g.y < (n : Int))
def wgt (p w : Int) : Gate → WG
  | .lin a x b y => ⟨a * w % p, b * w % p, 0, x, y⟩
  | .mul c x y => ⟨0, 0, c * w % p, x, y⟩
def wgts (p : Int) (l : List Gate) (ws : List Int) : List WG := (l.zip ws).map fun gw => wgt p gw.2 gw.1
def gsum (p : Int) (gs : List WG) (cols : List Int) : Int := (gs.map fun g => g.a * gi cols g.x + g.b * gi cols g.y + g.c * gi cols g.x % p * gi cols g.y).sum % p
def atN (t : List Int) (k : Nat) (z : Int) : Int := gi t (2 * (k : Nat)) + z * (gi t (2 * (k : Nat) + 1) - gi t (2 * (k : Nat)))
/-! ### the honest answerer -/
structure AS where
  c : Cir
  T : List (List Int)
  b : Nat
  steps : Int
  layer : Nat
  round : Nat
  wide : Nat
  gates : List WG
  near : List Int
  cols : List (List Int)
  first : List Int
  second : List Int
  share : Int
  below : List Int
  fac : List Int
  rest : List Int
  left : List Int
def ansKeys : List String := ["circuit", "tables", "bits", "p", "steps", "layer", "round", "wide", "gates", "near", "columns", "first", "second", "share", "below", "factors", "rest", "left"]
class Fl_Answerer (fl : String → List String) : Prop where
  circuit : (fl "circuit").contains "Answerer" = true
  tables : (fl "tables").contains "Answerer" = true
  bits : (fl "bits").contains "Answerer" = true
  p : (fl "p").contains "Answerer" = true
  steps : (fl "steps").contains "Answerer" = true
  layer : (fl "layer").contains "Answerer" = true
  round : (fl "round").contains "Answerer" = true
  wide : (fl "wide").contains "Answerer" = true
  gates : (fl "gates").contains "Answerer" = true
  near : (fl "near").contains "Answerer" = true
  columns : (fl "columns").contains "Answerer" = true
  first : (fl "first").contains "Answerer" = true
  second : (fl "second").contains "Answerer" = true
  share : (fl "share").contains "Answerer" = true
  below : (fl "below").contains "Answerer" = true
  factors : (fl "factors").contains "Answerer" = true
  rest : (fl "rest").contains "Answerer" = true
  left : (fl "left").contains "Answerer" = true
/-- a method of this name is no field -/
def PlF (fs : List (String × D)) : Prop := ∀ x ∈ fs, plD x.2 = true
theorem PlF.put {f : String} {v : D} (hv : plD v = true) : ∀ {fs : List (String × D)}, PlF fs → PlF (putD f v fs)
  | [], _ => fun x hx => by rw [List.mem_singleton.mp hx]; exact hv
  | (k, y) :: r, h => fun x hx => by
    unfold putD at hx
    by_cases e : k = f
    · rw [if_pos e] at hx
      rcases List.mem_cons.mp hx with z | z
      · rw [z]; exact hv
      · exact h x (List.mem_cons_of_mem _ z)
    · rw [if_neg e] at hx
      rcases List.mem_cons.mp hx with z | z
      · rw [z]; exact h (k, y) List.mem_cons_self
      · exact PlF.put hv (fun w hw => h w (List.mem_cons_of_mem _ hw)) x z
theorem PlF.cl {n : Nat} : ∀ {fs : List (String × D)}, PlF fs → clF n fs = true
  | [], _ => rfl
  | (k, y) :: r, h => by
    show (clD n y && clF n r) = true
    rw [clD_pl y (h (k, y) List.mem_cons_self), PlF.cl fun w hw => h w (List.mem_cons_of_mem _ hw)]; rfl
structure A0 (fs : List (String × D)) (s : AS) : Prop where
  k : KeysOK ansKeys fs
  pl : PlF fs
  circuit : fs.lookup "circuit" = some (cD s.c)
  tables : fs.lookup "tables" = some (tabL s.T)
  bits : fs.lookup "bits" = some (.int (s.b : Nat))
  p : fs.lookup "p" = some (.int s.c.p)
  steps : fs.lookup "steps" = some (.int s.steps)
structure A1 (fs : List (String × D)) (s : AS) : Prop extends A0 fs s where
  layer : fs.lookup "layer" = some (.int (s.layer : Nat))
  round : fs.lookup "round" = some (.int (s.round : Nat))
  wide : fs.lookup "wide" = some (.int (s.wide : Nat))
  gates : fs.lookup "gates" = some (.lst (s.gates.map wgD))
  near : fs.lookup "near" = some (.lst (s.near.map D.int))
  columns : fs.lookup "columns" = some (tabL s.cols)
  first : fs.lookup "first" = some (.lst (s.first.map D.int))
  second : fs.lookup "second" = some (.lst (s.second.map D.int))
structure A2 (fs : List (String × D)) (s : AS) : Prop extends A1 fs s where
  share : fs.lookup "share" = some (.int s.share)
  below : fs.lookup "below" = some (.lst (s.below.map D.int))
  factors : fs.lookup "factors" = some (.lst (s.fac.map D.int))
  rest : fs.lookup "rest" = some (.lst (s.rest.map D.int))
  left : fs.lookup "left" = some (.lst (s.left.map D.int))
def ft1 (p : Int) (below : List Int) (gs : List WG) (f : List Int) : List Int := gs.foldl (fun f g => f.set g.x.toNat ((gi f g.x + g.a + g.c * gi below g.y) % p)) f
def rs1 (p : Int) (below : List Int) (gs : List WG) (f : List Int) : List Int := gs.foldl (fun f g => f.set g.x.toNat ((gi f g.x + g.b * gi below g.y) % p)) f
def ft2 (p : Int) (w : List Int) (v : Int) (gs : List WG) (f : List Int) : List Int := gs.foldl (fun f g => f.set g.y.toNat ((gi f g.y + gi w g.x * (g.b + g.c * v)) % p)) f
def rs2 (p : Int) (w : List Int) (v : Int) (gs : List WG) (f : List Int) : List Int := gs.foldl (fun f g => f.set g.y.toNat ((gi f g.y + gi w g.x * g.a % p * v) % p)) f
def zer (n : Nat) : List Int := List.replicate n 0
def turn1 (s : AS) : AS := if s.round = s.b then { s with share := gi s.near 0, below := s.cols.map fun c => gi c 0, fac := ft1 s.c.p (s.cols.map fun c => gi c 0) s.gates (zer s.cols.length), rest := rs1 s.c.p (s.cols.map fun c => gi c 0) s.gates (zer s.cols.length), left := s.cols.map fun c => gi c 0, steps := s.steps + (s.gates.length : Nat) } else s
def turn2 (s : AS) : AS := if s.round = s.b + s.wide then { s with fac := ft2 s.c.p (pointT s.first s.c.p) (gi s.left 0) s.gates (zer s.below.length), rest := rs2 s.c.p (pointT s.first s.c.p) (gi s.left 0) s.gates (zer s.below.length), left := s.below, steps := s.steps + (s.gates.length : Nat) } else s
def turnF (s : AS) : AS := turn2 (turn1 s)
def beginF (s : AS) (layer : Nat) (g : List Int) : AS := turnF { s with layer := layer, round := 0, wide := (gi s.c.ws ((layer + 1 : Nat) : Int)).toNat, gates := wgts s.c.p (s.c.ls.getD layer []) (pointT (g.drop s.b) s.c.p), near := pointT (g.take s.b) s.c.p, cols := (List.range (colsN s.c (layer + 1))).map (fun k => ((s.T.getD (layer + 1) []).drop (2 ^ s.b * k)).take (2 ^ s.b)), first := [], second := [] }
def midF (s : AS) (z : Int) : AS := if s.round < s.b then { s with near := foldS s.c.p s.near z, cols := s.cols.map fun c => foldS s.c.p c z }
  else if s.round < s.b + 2 * s.wide then { s with fac := foldS s.c.p s.fac z, rest := foldS s.c.p s.rest z, left := foldS s.c.p s.left z, first := if s.round < s.b + s.wide then s.first ++ [z] else s.first, second := if s.round < s.b + s.wide then s.second else s.second ++ [z] } else s
def throwF (s : AS) (z : Int) : AS := turnF { midF s z with round := s.round + 1 }
def rowV (s : AS) (t : Int) : Int := (S (s.near.length / 2) fun k => atN s.near k t % s.c.p * gsum s.c.p s.gates (s.cols.map fun c => atN c k t % s.c.p)) % s.c.p
def colV (s : AS) (t : Int) : Int := (S (s.left.length / 2) fun k => atN s.fac k t * atN s.left k t + atN s.rest k t) * s.share % s.c.p
def rowSt (s : AS) : Int := ((s.near.length / 2 : Nat) : Int) * ((s.gates.length : Nat) + (s.cols.length : Nat))
def colSt (s : AS) : Int := ((s.left.length / 2 : Nat) : Int)
def polyF (s : AS) : List Int := if s.round < s.b then (List.range 4).map fun t : Nat => rowV s (t : Nat) else (List.range 3).map fun t : Nat => colV s (t : Nat)
def polyS (s : AS) : AS := { s with steps := s.steps + if s.round < s.b then 4 * rowSt s else 3 * colSt s }
def lineF (s : AS) : List Int := (List.range (s.first.length + 1)).map fun t : Nat => valAt s.below (lineV s.first s.second (t : Nat) s.c.p) s.c.p
/-- a state that the methods can take -/
structure V1 (s : AS) : Prop where
  pm : PM s.c.p
  b3 : s.b ≤ 10
  w3 : s.wide ≤ 10
  g : ∀ g ∈ s.gates, wgOK s.c.p (2 ^ s.wide) g
  gl : s.gates.length ≤ 100000
  near : InP s.c.p s.near
  nl : s.near.length = 2 ^ (s.b - s.round)
  cl : s.cols.length = 2 ^ s.wide
  col : ∀ c ∈ s.cols, InP s.c.p c ∧ c.length = 2 ^ (s.b - s.round)
  f : InP s.c.p s.first
  fl : s.first.length = min (s.round - s.b) s.wide
  sn : InP s.c.p s.second
  sl : s.second.length = min (s.round - s.b - s.wide) s.wide
def leftP (s : AS) : Nat := if s.round ≤ s.b + s.wide then 2 ^ (s.wide - (s.round - s.b)) else 2 ^ (s.wide - (s.round - s.b - s.wide))
def leftL (s : AS) : Nat := if s.round < s.b + s.wide then 2 ^ (s.wide - (s.round - s.b)) else 2 ^ (s.wide - (s.round - s.b - s.wide))
structure V2 (s : AS) (L : Nat) : Prop where
  share : 0 ≤ s.share ∧ s.share < s.c.p
  below : InP s.c.p s.below
  bl : s.below.length = 2 ^ s.wide
  fac : InP s.c.p s.fac
  facl : s.fac.length = L
  rest : InP s.c.p s.rest
  restl : s.rest.length = L
  left : InP s.c.p s.left
  leftl : s.left.length = L
set_option hygiene false in
local macro_rules | `(tactic| walk_at "an") => `(tactic| (walk_at "dx"; (try simp only [dgTupG, dgsCons, dgsNil, dgFld, asT, dVar, List.length_cons, List.length_nil, List.getElem?_cons_zero, ob, obL, hk, moI_ins, Fl_Answerer.circuit, Fl_Answerer.tables, Fl_Answerer.bits, Fl_Answerer.p, Fl_Answerer.steps, Fl_Answerer.layer, Fl_Answerer.round, Fl_Answerer.wide, Fl_Answerer.gates, Fl_Answerer.near, Fl_Answerer.columns, Fl_Answerer.first, Fl_Answerer.second, Fl_Answerer.share, Fl_Answerer.below, Fl_Answerer.factors, Fl_Answerer.rest, Fl_Answerer.left,
  List.getElem?_set_self, List.set_set, List.length_set, look_put, String.reduceEq, reduceIte, exists_eq_left', Option.some.injEq, true_and, and_true])))

theorem obApp {M : List MO} {k : Nat} {o : MO} (h : M[k]? = some o) : ∀ L, (M ++ L)[k]? = some o := fun L => by
  have hk : k < M.length := by
    rcases Nat.lt_or_ge k M.length with z | z
    · exact z
    · rw [List.getElem?_eq_none z] at h; cases h
  rw [List.getElem?_append_left hk]; exact h
theorem getLt {M : List MO} {k : Nat} {o : MO} (h : M[k]? = some o) : k < M.length := by
  rcases Nat.lt_or_ge k M.length with z | z
  · exact z
  · rw [List.getElem?_eq_none z] at h; cases h
theorem st1 {M : List MO} {a b c : MO} : (M ++ [a, b]).set M.length c = M ++ [c, b] := set_app2
theorem st2 {M : List MO} {a b c : MO} : (M ++ [a, b]).set (M.length + 1) c = M ++ [a, c] := by rw [List.set_append_right _ _ (by omega)]; simp
theorem two_half {n : Nat} (h : 0 < n) : 2 ^ n / 2 = 2 ^ (n - 1) := by
  obtain ⟨e, rfl⟩ : ∃ e, n = e + 1 := ⟨n - 1, by omega⟩
  rw [Nat.pow_succ, Nat.mul_div_cancel _ (by decide)]; rfl
/-- the object with other steps -/
def stD (st : Int) (fs : List (String × D)) : MO := .ins "Answerer" (putD "steps" (.int st) fs)
theorem st_lookup {st : Int} {fs : List (String × D)} {f : String} (h : f ≠ "steps") : (putD "steps" (.int st) fs).lookup f = fs.lookup f := by rw [look_put, if_neg (fun z => h z.symm)]
/-- other steps change no other field -/
theorem A0.st {fs : List (String × D)} {s : AS} (h : A0 fs s) (st : Int) : A0 (putD "steps" (.int st) fs) { s with steps := st } where
  k := h.k.put (by decide)
  pl := h.pl.put rfl
  circuit := (st_lookup (by decide)).trans h.circuit
  tables := (st_lookup (by decide)).trans h.tables
  bits := (st_lookup (by decide)).trans h.bits
  p := (st_lookup (by decide)).trans h.p
  steps := by rw [look_put, if_pos rfl]
theorem A1.st {fs : List (String × D)} {s : AS} (h : A1 fs s) (st : Int) : A1 (putD "steps" (.int st) fs) { s with steps := st } where
  toA0 := h.toA0.st st
  layer := (st_lookup (by decide)).trans h.layer
  round := (st_lookup (by decide)).trans h.round
  wide := (st_lookup (by decide)).trans h.wide
  gates := (st_lookup (by decide)).trans h.gates
  near := (st_lookup (by decide)).trans h.near
  columns := (st_lookup (by decide)).trans h.columns
  first := (st_lookup (by decide)).trans h.first
  second := (st_lookup (by decide)).trans h.second
theorem A2.st {fs : List (String × D)} {s : AS} (h : A2 fs s) (st : Int) : A2 (putD "steps" (.int st) fs) { s with steps := st } where
  toA1 := h.toA1.st st
  share := (st_lookup (by decide)).trans h.share
  below := (st_lookup (by decide)).trans h.below
  factors := (st_lookup (by decide)).trans h.factors
  rest := (st_lookup (by decide)).trans h.rest
  left := (st_lookup (by decide)).trans h.left
theorem V1.st {s : AS} (h : V1 s) (st : Int) : V1 { s with steps := st } := ⟨h.pm, h.b3, h.w3, h.g, h.gl, h.near, h.nl, h.cl, h.col, h.f, h.fl, h.sn, h.sl⟩
theorem V2.st {s : AS} {L : Nat} (h : V2 s L) (st : Int) : V2 { s with steps := st } L := ⟨h.share, h.below, h.bl, h.fac, h.facl, h.rest, h.restl, h.left, h.leftl⟩
def C_Answerer_poly : DC := fun ds m Φ _ => ∃ (k : Nat) (fs : List (String × D)) (s : AS), ds = [.hnd k] ∧ m.M[k]? = some (.ins "Answerer" fs) ∧ A1 fs s ∧ V1 s ∧ (s.b ≤ s.round → A2 fs s ∧ V2 s (leftL s)) ∧ s.round < s.b + 2 * s.wide ∧
  Φ (.lst ((polyF s).map D.int)) ⟨m.M.set k (stD (polyS s).steps fs), m.s⟩
theorem foldset_ok {α : Type} {p : Int} (hp : 2 ≤ p) (i : α → Nat) (v : List Int → α → Int) : ∀ (gs : List α) (f : List Int), InP p f → (gs.foldl (fun f g => f.set (i g) (v f g % p)) f).length = f.length ∧ InP p (gs.foldl (fun f g => f.set (i g) (v f g % p)) f)
  | [], f, h => ⟨rfl, h⟩
  | g :: gs, f, h => by
    have z := foldset_ok hp i v gs (f.set (i g) (v f g % p)) (fun x hx => by
      rcases List.mem_or_eq_of_mem_set hx with z | z
      · exact h x z
      · rw [z]; exact mod_in hp)
    rw [List.length_set] at z
    exact z
theorem zer_in {p : Int} (hp : 2 ≤ p) {n : Nat} : InP p (zer n) := fun x hx => by
  rw [List.eq_of_mem_replicate hx]; omega
theorem zer_len {n : Nat} : (zer n).length = n := List.length_replicate
theorem turn1_r (s : AS) : (turn1 s).round = s.round ∧ (turn1 s).b = s.b ∧ (turn1 s).wide = s.wide ∧ (turn1 s).c = s.c := by
  unfold turn1; split <;> exact ⟨rfl, rfl, rfl, rfl⟩
theorem turn2_r (s : AS) : (turn2 s).round = s.round ∧ (turn2 s).b = s.b ∧ (turn2 s).wide = s.wide ∧ (turn2 s).c = s.c := by
  unfold turn2; split <;> exact ⟨rfl, rfl, rfl, rfl⟩
theorem turnF_r (s : AS) : (turnF s).round = s.round ∧ (turnF s).b = s.b ∧ (turnF s).wide = s.wide ∧ (turnF s).c = s.c := by
  have h1 := turn1_r s
  have h2 := turn2_r (turn1 s)
  exact ⟨h2.1.trans h1.1, h2.2.1.trans h1.2.1, h2.2.2.1.trans h1.2.2.1, h2.2.2.2.trans h1.2.2.2⟩
theorem turn1_v1 {s : AS} (h : V1 s) : V1 (turn1 s) := by
  unfold turn1; split
  · exact ⟨h.pm, h.b3, h.w3, h.g, h.gl, h.near, h.nl, h.cl, h.col, h.f, h.fl, h.sn, h.sl⟩
  · exact h
theorem turn2_v1 {s : AS} (h : V1 s) : V1 (turn2 s) := by
  unfold turn2; split
  · exact ⟨h.pm, h.b3, h.w3, h.g, h.gl, h.near, h.nl, h.cl, h.col, h.f, h.fl, h.sn, h.sl⟩
  · exact h
theorem turn1_v2 {s : AS} (h : V1 s) (e : s.round = s.b) : V2 (turn1 s) (2 ^ s.wide) := by
  have hp1 := h.pm.1
  have nl := h.nl
  rw [e, Nat.sub_self, Nat.pow_zero] at nl
  have bin : InP s.c.p (s.cols.map fun c => gi c 0) := fun x hx => by
    obtain ⟨c, hc, rfl⟩ := List.mem_map.mp hx
    have z := h.col c hc
    rw [e, Nat.sub_self, Nat.pow_zero] at z
    exact z.1.gN (i := 0) (by omega)
  have bl : (s.cols.map fun c => gi c 0).length = 2 ^ s.wide := by rw [List.length_map, h.cl]
  have k1 := foldset_ok hp1 (fun g : WG => g.x.toNat) (fun f g => gi f g.x + g.a + g.c * gi (s.cols.map fun c => gi c 0) g.y) s.gates (zer s.cols.length) (zer_in hp1)
  have k2 := foldset_ok hp1 (fun g : WG => g.x.toNat) (fun f g => gi f g.x + g.b * gi (s.cols.map fun c => gi c 0) g.y) s.gates (zer s.cols.length) (zer_in hp1)
  rw [zer_len, h.cl] at k1 k2
  unfold turn1
  rw [if_pos e]
  exact ⟨h.near.gN (i := 0) (by omega), bin, bl, by show InP _ (ft1 _ _ _ (zer s.cols.length)); rw [h.cl]; exact k1.2, by show (ft1 _ _ _ _).length = _; rw [h.cl]; exact k1.1, by show InP _ (rs1 _ _ _ (zer s.cols.length)); rw [h.cl]; exact k2.2, by show (rs1 _ _ _ _).length = _; rw [h.cl]; exact k2.1, bin, bl⟩
theorem A1.same {fs : List (String × D)} {s s' : AS} (h : A1 fs s) (e : (s'.c, s'.T, s'.b, s'.steps, s'.layer, s'.round, s'.wide, s'.gates, s'.near, s'.cols, s'.first, s'.second) = (s.c, s.T, s.b, s.steps, s.layer, s.round, s.wide, s.gates, s.near, s.cols, s.first, s.second)) : A1 fs s' := by
  simp only [Prod.mk.injEq] at e
  obtain ⟨e1, e2, e3, e4, e5, e6, e7, e8, e9, e10, e11, e12⟩ := e
  exact ⟨⟨h.k, h.pl, by rw [e1]; exact h.circuit, by rw [e2]; exact h.tables, by rw [e3]; exact h.bits, by rw [e1]; exact h.p, by rw [e4]; exact h.steps⟩, by rw [e5]; exact h.layer, by rw [e6]; exact h.round, by rw [e7]; exact h.wide, by rw [e8]; exact h.gates, by rw [e9]; exact h.near, by rw [e10]; exact h.columns, by rw [e11]; exact h.first, by rw [e12]; exact h.second⟩
theorem V1.same {s s' : AS} (h : V1 s) (e : (s'.c, s'.b, s'.round, s'.wide, s'.gates, s'.near, s'.cols, s'.first, s'.second) = (s.c, s.b, s.round, s.wide, s.gates, s.near, s.cols, s.first, s.second)) : V1 s' := by
  simp only [Prod.mk.injEq] at e
  obtain ⟨e1, e3, e6, e7, e8, e9, e10, e11, e12⟩ := e
  exact ⟨by rw [e1]; exact h.pm, by rw [e3]; exact h.b3, by rw [e7]; exact h.w3, by rw [e8, e1, e7]; exact h.g, by rw [e8]; exact h.gl, by rw [e1, e9]; exact h.near, by rw [e9, e3, e6]; exact h.nl, by rw [e10, e7]; exact h.cl, by rw [e10, e1, e3, e6]; exact h.col, by rw [e1, e11]; exact h.f, by rw [e11, e6, e3, e7]; exact h.fl, by rw [e1, e12]; exact h.sn, by rw [e12, e6, e3, e7]; exact h.sl⟩
/-- the state that stands at k, as the methods need it -/
structure AnsOK (fs : List (String × D)) (s : AS) : Prop where
  a1 : A1 fs s
  v1 : V1 s
  two : s.b ≤ s.round → A2 fs s ∧ V2 s (leftL s)
def C_Answerer_throw : DC := fun ds m Φ _ => ∃ (k : Nat) (fs : List (String × D)) (s : AS) (z : Int), ds = [.hnd k, .int z] ∧ m.M[k]? = some (.ins "Answerer" fs) ∧ AnsOK fs s ∧ 0 ≤ z ∧ z < s.c.p ∧
  ∀ fs', AnsOK fs' (throwF s z) → Φ .non ⟨m.M.set k (.ins "Answerer" fs'), m.s⟩
/-- what the answerer is made of -/
structure B0 (s : AS) (most wide : Nat) : Prop where
  c : CirOK s.c most wide
  m4 : most ≤ 4
  w3 : wide ≤ 3
  b3 : s.b ≤ 3
  tl : s.T.length = s.c.ls.length + 1
  t : ∀ i ≤ s.c.ls.length, InP s.c.p (s.T.getD i []) ∧ (s.T.getD i []).length = colsN s.c i * 2 ^ s.b
theorem B0.cols {s : AS} {most wide : Nat} (h : B0 s most wide) {i : Nat} (hi : i ≤ s.c.ls.length) : 1 ≤ colsN s.c i ∧ colsN s.c i ≤ 8 := by
  have hwl := h.c.wl
  have z := pow_le8 (h.c.w0 _ (gi_mem (show i < s.c.ws.length by omega))) h.w3
  have := colsN_eq (c := s.c) (i := i)
  unfold colsC at this
  omega
theorem wgts_ok {p : Int} {n : Nat} (hp : 2 ≤ p) {l : List Gate} {ws : List Int} (h : ∀ g ∈ l, gOK p (n : Nat) g) : ∀ g ∈ wgts p l ws, wgOK p n g := fun g hg => by
  obtain ⟨⟨a, w⟩, hm, rfl⟩ := List.mem_map.mp hg
  have z := h a (List.of_mem_zip hm).1
  cases a with
  | lin a x b y =>
    obtain ⟨ha, hx, hb, hy⟩ := z
    exact ⟨mod_in hp, mod_in hp, ⟨Int.le_refl 0, by show (0 : Int) < p; omega⟩, hx, hy⟩
  | mul c x y =>
    obtain ⟨ha, hx, hy⟩ := z
    exact ⟨⟨Int.le_refl 0, by show (0 : Int) < p; omega⟩, ⟨Int.le_refl 0, by show (0 : Int) < p; omega⟩, mod_in hp, hx, hy⟩
def C_Answerer_begin : DC := fun ds m Φ _ => ∃ (k : Nat) (fs : List (String × D)) (s : AS) (layer most wide : Nat) (g : List Int), ds = [.hnd k, .int (layer : Nat), .lst (g.map D.int)] ∧ m.M[k]? = some (.ins "Answerer" fs) ∧ A0 fs s ∧ B0 s most wide ∧ layer < s.c.ls.length ∧ InP s.c.p g ∧ (g.length : Int) = s.b + gi s.c.ws (layer : Nat) ∧
  ∀ fs', AnsOK fs' (beginF s layer g) → Φ .non ⟨m.M.set k (.ins "Answerer" fs'), m.s⟩
theorem flat_len {α : Type} {f : Nat → List α} {N : Nat} (hf : ∀ g, (f g).length = N) : ∀ cols, ((List.range cols).flatMap f).length = cols * N
  | 0 => by simp
  | k + 1 => by rw [List.range_succ, List.flatMap_append, List.length_append, flat_len hf k, Nat.add_mul]; simp [hf]
/-- the answerer, new -/
def s0 (c : Cir) (R : List (List Int)) (b : Nat) : AS := ⟨c, tables c R, b, 0, 0, 0, 0, [], [], [], [], [], 0, [], [], [], []⟩
def C_Answerer_line : DC := fun ds m Φ _ => ∃ (k : Nat) (fs : List (String × D)) (s : AS), ds = [.hnd k] ∧ m.M[k]? = some (.ins "Answerer" fs) ∧ AnsOK fs s ∧ s.b + 2 * s.wide ≤ s.round ∧ Φ (.lst ((lineF s).map D.int)) m
/-! ### what stays as it is -/
structure Fix (s s' : AS) : Prop where
  c : s'.c = s.c
  T : s'.T = s.T
  b : s'.b = s.b
theorem Fix.trans {a b c : AS} (h : Fix a b) (g : Fix b c) : Fix a c := ⟨g.c.trans h.c, g.T.trans h.T, g.b.trans h.b⟩
theorem fix_turn (s : AS) : Fix s (turnF s) := by
  have h1 : Fix s (turn1 s) := by unfold turn1; split <;> exact ⟨rfl, rfl, rfl⟩
  have h2 : ∀ s, Fix s (turn2 s) := fun s => by unfold turn2; split <;> exact ⟨rfl, rfl, rfl⟩
  exact h1.trans (h2 _)
theorem mid_r (s : AS) (z : Int) : (midF s z).round = s.round ∧ (midF s z).wide = s.wide ∧ Fix s (midF s z) := by
  unfold midF
  split
  · exact ⟨rfl, rfl, rfl, rfl, rfl⟩
  · split
    · exact ⟨rfl, rfl, rfl, rfl, rfl⟩
    · exact ⟨rfl, rfl, rfl, rfl, rfl⟩
theorem throw_r (s : AS) (z : Int) : (throwF s z).round = s.round + 1 ∧ (throwF s z).wide = s.wide ∧ Fix s (throwF s z) := by
  have h1 := mid_r s z
  have h2 := turnF_r { midF s z with round := s.round + 1 }
  exact ⟨h2.1, h2.2.2.1.trans h1.2.1, h1.2.2.trans (Fix.trans (b := { midF s z with round := s.round + 1 }) ⟨rfl, rfl, rfl⟩ (fix_turn _))⟩
theorem AnsOK.a0 {fs : List (String × D)} {s : AS} (h : AnsOK fs s) : A0 fs s := h.a1.toA0
theorem AnsOK.poly {fs : List (String × D)} {s : AS} (h : AnsOK fs s) : AnsOK (putD "steps" (.int (polyS s).steps) fs) (polyS s) := ⟨h.a1.st _, h.v1.st _, fun e => by
  obtain ⟨x, y⟩ := h.two e
  exact ⟨x.st _, y.st _⟩⟩
/-! ### a layer's answers, all answers -/
/-- the widths as numbers -/
def wN (c : Cir) (i : Nat) : Nat := (gi c.ws (i : Nat)).toNat
def needN (c : Cir) (b : Nat) : Nat → Nat → Nat
  | _, 0 => 0
  | l, n + 1 => (b + 2 * wN c (l + 1) + 1) + needN c b (l + 1) n
def ansD (a : List (List Int) × List Int) : D := .tup [tabL a.1, .lst (a.2.map D.int)]
theorem wN_eq {c : Cir} {most wide : Nat} (hc : CirOK c most wide) {i : Nat} (h : i ≤ c.ls.length) : ((wN c i : Nat) : Int) = gi c.ws (i : Nat) := by
  have hwl := hc.wl
  have := hc.w0 _ (gi_mem (show i < c.ws.length by omega))
  unfold wN
  omega
/-! ### the states in themselves -/
structure OKs (s : AS) : Prop where
  v1 : V1 s
  v2 : s.b ≤ s.round → V2 s (leftL s)
theorem V2.same {s s' : AS} {L : Nat} (h : V2 s L) (e : (s'.c, s'.wide, s'.share, s'.below, s'.fac, s'.rest, s'.left) = (s.c, s.wide, s.share, s.below, s.fac, s.rest, s.left)) : V2 s' L := by
  simp only [Prod.mk.injEq] at e
  obtain ⟨e1, e2, e3, e4, e5, e6, e7⟩ := e
  exact ⟨by rw [e3, e1]; exact h.share, by rw [e4, e1]; exact h.below, by rw [e4, e2]; exact h.bl, by rw [e5, e1]; exact h.fac, by rw [e5]; exact h.facl, by rw [e6, e1]; exact h.rest, by rw [e6]; exact h.restl, by rw [e7, e1]; exact h.left, by rw [e7]; exact h.leftl⟩
theorem turn2_v2 {s : AS} (v1 : V1 s) (v2 : V2 s (leftP s)) (h : s.b ≤ s.round) : V2 (turn2 s) (leftL (turn2 s)) := by
  obtain ⟨q1, q2, q3, q4⟩ := turn2_r s
  have hp1 := v1.pm.1
  have hL : ∀ t : AS, t.round = s.round → t.b = s.b → t.wide = s.wide → leftL t = leftL s := fun t e1 e2 e3 => by unfold leftL; rw [e1, e2, e3]
  rw [hL _ q1 q2 q3]
  by_cases e : s.round = s.b + s.wide
  · have t2 : turn2 s = { s with fac := ft2 s.c.p (pointT s.first s.c.p) (gi s.left 0) s.gates (zer s.below.length), rest := rs2 s.c.p (pointT s.first s.c.p) (gi s.left 0) s.gates (zer s.below.length), left := s.below, steps := s.steps + (s.gates.length : Nat) } := if_pos e
    have k1 := foldset_ok hp1 (fun g : WG => g.y.toNat) (fun f g => gi f g.y + gi (pointT s.first s.c.p) g.x * (g.b + g.c * gi s.left 0)) s.gates (zer s.below.length) (zer_in hp1)
    have k2 := foldset_ok hp1 (fun g : WG => g.y.toNat) (fun f g => gi f g.y + gi (pointT s.first s.c.p) g.x * g.a % s.c.p * gi s.left 0) s.gates (zer s.below.length) (zer_in hp1)
    rw [zer_len, v2.bl] at k1 k2
    have hL : leftL s = 2 ^ s.wide := by
      unfold leftL
      rw [if_neg (by omega), show s.wide - (s.round - s.b - s.wide) = s.wide by omega]
    rw [t2]
    refine ⟨v2.share, v2.below, v2.bl, ?_, ?_, ?_, ?_, v2.below, ?_⟩
    · show InP _ (ft2 _ _ _ _ _); rw [v2.bl]; exact k1.2
    · show (ft2 _ _ _ _ _).length = leftL s; rw [hL, v2.bl]; exact k1.1
    · show InP _ (rs2 _ _ _ _ _); rw [v2.bl]; exact k2.2
    · show (rs2 _ _ _ _ _).length = leftL s; rw [hL, v2.bl]; exact k2.1
    · show s.below.length = leftL s; rw [hL, v2.bl]
  · have t2 : turn2 s = s := if_neg e
    rw [t2]
    have : leftP s = leftL s := by
      unfold leftP leftL
      by_cases z : s.round < s.b + s.wide
      · rw [if_pos (by omega), if_pos z]
      · rw [if_neg (by omega), if_neg z]
    rw [← this]; exact v2
theorem turn_ok {s : AS} (v1 : V1 s) (v2 : s.b < s.round → V2 s (leftP s)) : OKs (turnF s) := by
  have tr := turnF_r s
  have t1r := turn1_r s
  refine ⟨turn2_v1 (turn1_v1 v1), fun h => ?_⟩
  rw [tr.1, tr.2.1] at h
  refine turn2_v2 (turn1_v1 v1) ?_ (by rw [t1r.1, t1r.2.1]; exact h)
  have hP : leftP (turn1 s) = leftP s := by unfold leftP; rw [t1r.1, t1r.2.1, t1r.2.2.1]
  rw [hP]
  by_cases e : s.round = s.b
  · have : leftP s = 2 ^ s.wide := by
      unfold leftP
      rw [if_pos (by omega), e, Nat.sub_self, Nat.sub_zero]
    rw [this]
    exact turn1_v2 v1 e
  · have t1 : turn1 s = s := if_neg e
    rw [t1]
    exact v2 (by omega)
theorem OKs.poly {s : AS} (h : OKs s) : OKs (polyS s) := ⟨h.v1.st _, fun e => (h.v2 e).st _⟩
theorem OKs.throw {s : AS} (ok : OKs s) {z : Int} (z0 : 0 ≤ z) (z1 : z < s.c.p) : OKs (throwF s z) := by
  have v1 := ok.v1
  have hp := v1.pm
  have hp1 := hp.1
  have mr := mid_r s z
  have nl := v1.nl
  have fle := v1.fl
  have sle := v1.sl
  unfold throwF
  by_cases hb : s.round < s.b
  · have em : midF s z = { s with near := foldS s.c.p s.near z, cols := s.cols.map fun c => foldS s.c.p c z } := if_pos hb
    have hh : 2 ^ (s.b - s.round) / 2 = 2 ^ (s.b - (s.round + 1)) := by rw [two_half (by omega)]; congr 1
    refine turn_ok ?_ fun h => ?_
    · rw [em]
      refine ⟨hp, v1.b3, v1.w3, v1.g, v1.gl, foldS_in hp1, ?_, ?_, fun c hc => ?_, v1.f, ?_, v1.sn, ?_⟩
      · show (foldS _ _ _).length = _
        rw [foldS_len, v1.nl]; exact hh
      · show (s.cols.map _).length = _
        rw [List.length_map, v1.cl]
      · obtain ⟨c0, h0, rfl⟩ := List.mem_map.mp hc
        exact ⟨foldS_in hp1, by rw [foldS_len, (v1.col c0 h0).2]; exact hh⟩
      · show s.first.length = min (s.round + 1 - s.b) s.wide
        omega
      · show s.second.length = min (s.round + 1 - s.b - s.wide) s.wide
        omega
    · have h : (midF s z).b < s.round + 1 := h
      rw [mr.2.2.b] at h; omega
  have v2 := ok.v2 (by omega)
  have hn0 : s.b - (s.round + 1) = s.b - s.round := by omega
  by_cases hw : s.round < s.b + 2 * s.wide
  · have em : midF s z = { s with fac := foldS s.c.p s.fac z, rest := foldS s.c.p s.rest z, left := foldS s.c.p s.left z, first := if s.round < s.b + s.wide then s.first ++ [z] else s.first, second := if s.round < s.b + s.wide then s.second else s.second ++ [z] } := by
      unfold midF; rw [if_neg hb, if_pos hw]
    have zin : ∀ xs : List Int, InP s.c.p xs → InP s.c.p (xs ++ [z]) := fun xs h x hx => by
      rcases List.mem_append.mp hx with y | y
      · exact h x y
      · rw [List.mem_singleton.mp y]; exact ⟨z0, z1⟩
    have V1a : (∀ f' s', f' = (if s.round < s.b + s.wide then s.first ++ [z] else s.first) → s' = (if s.round < s.b + s.wide then s.second else s.second ++ [z]) → InP s.c.p f' ∧ f'.length = min (s.round + 1 - s.b) s.wide ∧ InP s.c.p s' ∧ s'.length = min (s.round + 1 - s.b - s.wide) s.wide) := by
      rintro f' s' rfl rfl
      by_cases y : s.round < s.b + s.wide
      · rw [if_pos y, if_pos y]
        refine ⟨zin _ v1.f, ?_, v1.sn, by omega⟩
        rw [List.length_append]; show s.first.length + 1 = _; omega
      · rw [if_neg y, if_neg y]
        refine ⟨v1.f, by omega, zin _ v1.sn, ?_⟩
        rw [List.length_append]; show s.second.length + 1 = _; omega
    have hL1 : leftL s / 2 = leftP { midF s z with round := s.round + 1 } := by
      have e1 : leftP { midF s z with round := s.round + 1 } = if s.round + 1 ≤ s.b + s.wide then 2 ^ (s.wide - (s.round + 1 - s.b)) else 2 ^ (s.wide - (s.round + 1 - s.b - s.wide)) := by
        unfold leftP
        show (if s.round + 1 ≤ (midF s z).b + (midF s z).wide then _ else _) = _
        rw [mr.2.2.b, mr.2.1]
      rw [e1]
      unfold leftL
      by_cases y : s.round < s.b + s.wide
      · rw [if_pos y, if_pos (by omega), two_half (by omega)]; congr 1; omega
      · rw [if_neg y, if_neg (by omega), two_half (by omega)]; congr 1; omega
    refine turn_ok ?_ fun _ => ?_
    · obtain ⟨q1, q2, q3, q4⟩ := V1a _ _ rfl rfl
      rw [em]
      exact ⟨hp, v1.b3, v1.w3, v1.g, v1.gl, v1.near, by show s.near.length = 2 ^ (s.b - (s.round + 1)); rw [nl, hn0], v1.cl, fun c hc => ⟨(v1.col c hc).1, by show c.length = 2 ^ (s.b - (s.round + 1)); rw [(v1.col c hc).2, hn0]⟩, q1, q2, q3, q4⟩
    · rw [← hL1]
      rw [em]
      refine ⟨v2.share, v2.below, v2.bl, foldS_in hp1, ?_, foldS_in hp1, ?_, foldS_in hp1, ?_⟩
      · show (foldS _ _ _).length = _
        rw [foldS_len, v2.facl]
      · show (foldS _ _ _).length = _
        rw [foldS_len, v2.restl]
      · show (foldS _ _ _).length = _
        rw [foldS_len, v2.leftl]
  · have em : midF s z = s := by unfold midF; rw [if_neg hb, if_neg hw]
    rw [em]
    refine turn_ok ?_ fun _ => ?_
    · refine ⟨hp, v1.b3, v1.w3, v1.g, v1.gl, v1.near, by show s.near.length = _; rw [nl]; exact congrArg _ hn0.symm, v1.cl, fun c hc => ⟨(v1.col c hc).1, by rw [(v1.col c hc).2]; exact congrArg _ hn0.symm⟩, v1.f, ?_, v1.sn, ?_⟩
      · show s.first.length = min (s.round + 1 - s.b) s.wide
        omega
      · show s.second.length = min (s.round + 1 - s.b - s.wide) s.wide
        omega
    · have e1 : leftP { s with round := s.round + 1 } = leftL s := by
        unfold leftP leftL
        show (if s.round + 1 ≤ s.b + s.wide then 2 ^ (s.wide - (s.round + 1 - s.b)) else 2 ^ (s.wide - (s.round + 1 - s.b - s.wide))) = _
        rw [if_neg (by omega), if_neg (by omega)]
        congr 1; omega
      rw [e1]
      exact v2.same rfl
/-! ### the steps -/
/-! ### sums over corners -/
theorem S_split {F : Nat → Int} {M : Nat} : ∀ p : Nat, S (M * p) F = S p fun t => S M fun j => F (M * t + j)
  | 0 => rfl
  | p + 1 => by
    have e : ∀ a : Nat, S (M * p + a) F = S (M * p) F + S a fun j => F (M * p + j) := fun a => by
      induction a with
      | zero => show _ = _ + 0; rw [Nat.add_zero]; omega
      | succ a ih => show S (M * p + a) F + F (M * p + a) = _ + (S a _ + F (M * p + a)); rw [ih]; omega
    rw [Nat.mul_succ, e M, S_split p]
    rfl
theorem S_swap2 {F : Nat → Nat → Int} {M : Nat} : ∀ p : Nat, S p (fun t => S M fun j => F t j) = S M fun j => S p fun t => F t j
  | 0 => by
    show (0 : Int) = S M fun _ => 0
    induction M with
    | zero => rfl
    | succ M ih => show (0 : Int) = S M _ + 0; omega
  | p + 1 => by
    show S p _ + S M _ = _
    rw [S_swap2 p, ← S_add]
    rfl
theorem S_congr {f g : Nat → Int} : ∀ n : Nat, (∀ i < n, f i = g i) → S n f = S n g
  | 0, _ => rfl
  | n + 1, h => by show S n f + f n = S n g + g n; rw [S_congr n fun i hi => h i (by omega), h n (by omega)]
theorem wt_corn : ∀ (n k z : Nat), k < 2 ^ n → z < 2 ^ n → wt (corn k n) z = if z = k then 1 else 0
  | 0, k, z, hk, hz => by
    have e1 : k = 0 := by simpa using hk
    have e2 : z = 0 := by simpa using hz
    rw [if_pos (by omega)]; rfl
  | n + 1, k, z, hk, hz => by
    rw [Nat.pow_succ] at hk hz
    rw [corn_succ]
    show (if z % 2 = 1 then _ else _) * wt _ (z / 2) = _
    rw [wt_corn n (k / 2) (z / 2) (by omega) (by omega)]
    by_cases h : z = k
    · subst h
      rw [if_pos rfl, if_pos rfl]
      rcases (show z % 2 = 0 ∨ z % 2 = 1 by omega) with h | h <;> rw [h] <;> simp
    · rw [if_neg h]
      by_cases h2 : z / 2 = k / 2
      · rw [if_pos h2]
        rcases (show z % 2 = 0 ∨ z % 2 = 1 by omega) with h3 | h3
        · have : k % 2 = 1 := by omega
          rw [h3, this]; simp
        · have : k % 2 = 0 := by omega
          rw [h3, this]; simp
      · rw [if_neg h2, Int.mul_zero]
theorem corn_len {i n : Nat} : (corn i n).length = n := by unfold corn; rw [List.length_map, List.length_range]
theorem corn_app : ∀ (m i h n : Nat), i < 2 ^ m → corn (i + 2 ^ m * h) (m + n) = corn i m ++ corn h n
  | 0, i, h, n, hi => by
    have : i = 0 := by simpa using hi
    subst this
    rw [Nat.pow_zero, Nat.one_mul, Nat.zero_add, Nat.zero_add]; rfl
  | m + 1, i, h, n, hi => by
    rw [Nat.pow_succ] at hi
    rw [show m + 1 + n = (m + n) + 1 by omega, corn_succ, corn_succ, List.cons_append, Nat.pow_succ]
    have e : 2 ^ m * 2 * h = 2 * (2 ^ m * h) := by rw [Nat.mul_comm (2 ^ m) 2, Nat.mul_assoc]
    rw [e, show (i + 2 * (2 ^ m * h)) % 2 = i % 2 by omega, show (i + 2 * (2 ^ m * h)) / 2 = i / 2 + 2 ^ m * h by omega, corn_app m (i / 2) h n (by omega)]
def mle (T pt : List Int) : Int := S (2 ^ pt.length) fun z => wt pt z * gi T (z : Nat)
theorem mle_nil {T : List Int} : mle T [] = gi T 0 := by show 0 + 1 * gi T 0 = _; omega
theorem wt_lo {x : Int} {r : List Int} {i : Nat} : wt (x :: r) (2 * i) = (1 - x) * wt r i := by
  show (if 2 * i % 2 = 1 then x else 1 - x) * wt r (2 * i / 2) = _
  rw [if_neg (by omega), show 2 * i / 2 = i by omega]
theorem wt_hi {x : Int} {r : List Int} {i : Nat} : wt (x :: r) (2 * i + 1) = x * wt r i := by
  show (if (2 * i + 1) % 2 = 1 then x else 1 - x) * wt r ((2 * i + 1) / 2) = _
  rw [if_pos (by omega), show (2 * i + 1) / 2 = i by omega]
theorem mle_at {T : List Int} {x : Int} {r : List Int} : mle T (x :: r) = S (2 ^ r.length) fun i => wt r i * atN T i x := by
  unfold mle
  rw [List.length_cons, Nat.pow_succ, Nat.mul_comm, S_pair]
  refine S_congr _ fun i _ => ?_
  rw [wt_lo, wt_hi]
  unfold atN
  rw [show ((2 * i : Nat) : Int) = 2 * (i : Nat) by omega, show ((2 * i + 1 : Nat) : Int) = 2 * (i : Nat) + 1 by omega]
  grind
theorem foldS_at {p x : Int} {T : List Int} {i : Nat} (h : i < T.length / 2) : gi (foldS p T x) (i : Nat) = atN T i x % p := by
  unfold foldS
  rw [gi_range h]; rfl
theorem mle_cons {p x : Int} {T r : List Int} (h : T.length = 2 ^ (r.length + 1)) : Cg p (mle T (x :: r)) (mle (foldS p T x) r) := by
  rw [mle_at]
  unfold mle
  rw [Nat.pow_succ] at h
  refine S_cg _ fun i hi => ?_
  rw [foldS_at (by omega)]
  exact Cg.mul .refl Cg.mod.symm
theorem mle_app {p : Int} : ∀ (r s T : List Int), T.length = 2 ^ (r.length + s.length) → Cg p (mle T (r ++ s)) (mle (r.foldl (foldS p) T) s)
  | [], _, _, _ => .refl
  | x :: r, s, T, h => by
    rw [List.length_cons, show r.length + 1 + s.length = (r.length + s.length) + 1 by omega] at h
    refine (mle_cons (r := r ++ s) (by rw [List.length_append]; exact h)).trans ?_
    rw [Nat.pow_succ] at h
    exact mle_app r s _ (by rw [foldS_len]; omega)
theorem S_corn {f : Nat → Int} {i l : Nat} (hi : i < 2 ^ l) : S (2 ^ l) (fun z => wt (corn i l) z * f z) = f i := by
  rw [S_congr (g := fun z => if z = i then f i else 0) (2 ^ l) fun z hz => by
    rw [wt_corn l i z hi hz]
    by_cases e : z = i
    · rw [if_pos e, if_pos e, e]; omega
    · rw [if_neg e, if_neg e, Int.zero_mul]]
  rw [S_one (i := i) (fun k hk => if_neg hk), if_pos hi, if_pos rfl]
theorem mle_corn {T : List Int} {i l : Nat} (hi : i < 2 ^ l) : mle T (corn i l) = gi T (i : Nat) := by
  unfold mle
  rw [corn_len]
  exact S_corn (f := fun z => gi T (z : Nat)) hi
theorem mle_tcorn {T : List Int} {t : Int} {i l : Nat} (hi : i < 2 ^ l) : mle T (t :: corn i l) = atN T i t := by
  rw [mle_at, corn_len]
  exact S_corn (f := fun i => atN T i t) hi
theorem wt_app : ∀ (r s : List Int) (z h : Nat), z < 2 ^ r.length → wt (r ++ s) (z + 2 ^ r.length * h) = wt r z * wt s h
  | [], s, z, h, hz => by
    have : z = 0 := by simpa using hz
    subst this
    show wt s (0 + 2 ^ 0 * h) = 1 * wt s h
    rw [Nat.pow_zero, Nat.one_mul, Nat.zero_add, Int.one_mul]
  | x :: r, s, z, h, hz => by
    rw [List.length_cons, Nat.pow_succ] at hz ⊢
    have e : 2 ^ r.length * 2 * h = 2 * (2 ^ r.length * h) := by rw [Nat.mul_comm (2 ^ r.length) 2, Nat.mul_assoc]
    show (if (z + _) % 2 = 1 then x else 1 - x) * wt (r ++ s) ((z + _) / 2) = (if z % 2 = 1 then x else 1 - x) * wt r (z / 2) * wt s h
    rw [e, show (z + 2 * (2 ^ r.length * h)) % 2 = z % 2 by omega, show (z + 2 * (2 ^ r.length * h)) / 2 = z / 2 + 2 ^ r.length * h by omega, wt_app r s (z / 2) h (by omega), Int.mul_assoc]
/-- column h of a table of rows -/
def colT (B : List Int) (b h : Nat) : List Int := (B.drop (2 ^ b * h)).take (2 ^ b)
theorem colT_at {B : List Int} {b h z : Nat} (hz : z < 2 ^ b) : gi (colT B b h) (z : Nat) = gi B ((2 ^ b * h + z : Nat) : Int) := by
  unfold colT
  rw [gi_nat, gi_nat, List.getD_eq_getElem?_getD, List.getD_eq_getElem?_getD, List.getElem?_take_of_lt hz, List.getElem?_drop]
theorem mle_two {B r s : List Int} {b : Nat} (hr : r.length = b) : mle B (r ++ s) = S (2 ^ s.length) fun h => wt s h * mle (colT B b h) r := by
  subst hr
  unfold mle
  rw [List.length_append, Nat.pow_add, S_split]
  refine S_congr _ fun h _ => ?_
  rw [← S_mul]
  refine S_congr _ fun z hz => ?_
  rw [Nat.add_comm (2 ^ r.length * h) z, wt_app r s z h hz, colT_at hz, Nat.add_comm z]
  grind
theorem mle_col {B r : List Int} {b x w : Nat} (hr : r.length = b) (hx : x < 2 ^ w) : mle B (r ++ corn x w) = mle (colT B b x) r := by
  rw [mle_two hr, corn_len]
  exact S_corn (f := fun h => mle (colT B b h) r) hx
theorem mle_pointT {p : Int} {g s : List Int} (h : s.length = g.length) : Cg p (mle (pointT g p) s) (nPl g s) := by
  rw [← nPl_wt g s h.symm, ← h]
  unfold mle
  refine S_cg _ fun z hz => ?_
  rw [Int.mul_comm]
  exact Cg.mul (pointT_at (by rw [← h]; exact hz)) .refl
/-! ### the gates' sums -/
def gF (q : WG) (u v : Int) : Int := q.a * u + q.b * v + q.c * u * v
def WGsum (gs : List WG) (x y : List Int) (u v : Int) : Int := (gs.map fun q => wt x q.x.toNat * wt y q.y.toNat * gF q u v).sum
theorem sumS {α : Type} {F : α → Nat → Int} {N : Nat} (T : List α) : (T.map fun row => S N (F row)).sum = S N fun a => (T.map fun row => F row a).sum := sum_S_swap T
theorem wg_corn {gs : List WG} {w : Nat} {U V : Nat → Int} (h : ∀ q ∈ gs, q.x.toNat < 2 ^ w ∧ q.y.toNat < 2 ^ w) :
    S (2 ^ w) (fun x => S (2 ^ w) fun y => WGsum gs (corn x w) (corn y w) (U x) (V y)) = (gs.map fun q => gF q (U q.x.toNat) (V q.y.toNat)).sum := by
  unfold WGsum
  rw [S_congr (g := fun x => (gs.map fun q => wt (corn x w) q.x.toNat * gF q (U x) (V q.y.toNat)).sum) (2 ^ w) fun x hx => ?_]
  · rw [← sumS]
    congr 1
    refine List.map_congr_left fun q hq => ?_
    have hq := h q hq
    rw [S_congr (g := fun x => if x = q.x.toNat then gF q (U q.x.toNat) (V q.y.toNat) else 0) (2 ^ w) fun x hx => by
      rw [wt_corn w x _ hx hq.1]
      by_cases e : q.x.toNat = x
      · rw [if_pos e, if_pos e.symm, e]; omega
      · rw [if_neg e, if_neg (fun z => e z.symm), Int.zero_mul]]
    rw [S_one (i := q.x.toNat) (fun k hk => if_neg hk), if_pos hq.1, if_pos rfl]
  · rw [← sumS]
    congr 1
    refine List.map_congr_left fun q hq => ?_
    have hq := h q hq
    rw [S_congr (g := fun y => if y = q.y.toNat then wt (corn x w) q.x.toNat * gF q (U x) (V q.y.toNat) else 0) (2 ^ w) fun y hy => by
      rw [wt_corn w y _ hy hq.2]
      by_cases e : q.y.toNat = y
      · rw [if_pos e, if_pos e.symm, e]; grind
      · rw [if_neg e, if_neg (fun z => e z.symm)]; grind]
    rw [S_one (i := q.y.toNat) (fun k hk => if_neg hk), if_pos hq.2, if_pos rfl]
theorem wg_corn1 {gs : List WG} {w : Nat} {x : List Int} {u : Int} {V : Nat → Int} (h : ∀ q ∈ gs, q.y.toNat < 2 ^ w) :
    S (2 ^ w) (fun y => WGsum gs x (corn y w) u (V y)) = (gs.map fun q => wt x q.x.toNat * gF q u (V q.y.toNat)).sum := by
  unfold WGsum
  rw [← sumS]
  congr 1
  refine List.map_congr_left fun q hq => ?_
  have hq := h q hq
  rw [S_congr (g := fun y => if y = q.y.toNat then wt x q.x.toNat * gF q u (V q.y.toNat) else 0) (2 ^ w) fun y hy => by
    rw [wt_corn w y _ hy hq]
    by_cases e : q.y.toNat = y
    · rw [if_pos e, if_pos e.symm, e]; grind
    · rw [if_neg e, if_neg (fun z => e z.symm)]; grind]
  rw [S_one (i := q.y.toNat) (fun k hk => if_neg hk), if_pos hq, if_pos rfl]
theorem S_fun_add {f : Nat → Int} {i N : Nat} {d : Int} (hi : i < N) : S N (fun z => f z + if z = i then d else 0) = S N f + d := by
  rw [S_add]
  rw [S_one (f := fun z => if z = i then d else 0) (i := i) (fun k hk => if_neg hk), if_pos hi, if_pos rfl]
theorem mle_set {p d : Int} {f X : List Int} {i : Nat} (hi : i < 2 ^ X.length) (hf : f.length = 2 ^ X.length) : Cg p (mle (f.set i ((gi f (i : Nat) + d) % p)) X) (mle f X + wt X i * d) := by
  unfold mle
  rw [← S_fun_add (i := i) (d := wt X i * d) hi]
  refine S_cg _ fun z hz => ?_
  by_cases e : z = i
  · subst e
    rw [if_pos rfl, gi_nat, List.getD_eq_getElem?_getD, List.getElem?_set_self (by omega)]
    show Cg p (wt X z * ((gi f (z : Nat) + d) % p)) _
    refine (Cg.mul .refl Cg.mod).trans (.of_eq ?_)
    rw [Int.mul_add]
  · rw [if_neg e, gi_nat, List.getD_eq_getElem?_getD, List.getElem?_set_ne (fun z => e z.symm), ← List.getD_eq_getElem?_getD, ← gi_nat]
    exact .of_eq (by omega)
theorem mle_foldset {p : Int} {X : List Int} (i : WG → Nat) (d : WG → Int) : ∀ (gs : List WG) (f : List Int), f.length = 2 ^ X.length → (∀ q ∈ gs, i q < 2 ^ X.length) → Cg p (mle (gs.foldl (fun f g => f.set (i g) ((gi f ((i g : Nat) : Int) + d g) % p)) f) X) (mle f X + (gs.map fun g => wt X (i g) * d g).sum)
  | [], f, _, _ => .of_eq (by show _ = _ + 0; rw [Int.add_zero]; rfl)
  | g :: gs, f, hf, h => by
    have z := mle_foldset (p := p) i d gs (f.set (i g) ((gi f ((i g : Nat) : Int) + d g) % p)) (by rw [List.length_set]; exact hf) fun q hq => h q (List.mem_cons_of_mem _ hq)
    refine Cg.trans z ?_
    rw [List.map_cons, List.sum_cons, ← Int.add_assoc]
    exact Cg.add (mle_set (h g List.mem_cons_self) hf) .refl
theorem mle_zer {n : Nat} {X : List Int} : mle (zer n) X = 0 := by
  unfold mle
  rw [S_congr (g := fun _ => 0) _ fun z _ => ?_]
  · exact S_one (f := fun _ => (0 : Int)) (i := 0) (fun _ _ => rfl) _ |>.trans (by split <;> rfl)
  · rw [gi_nat, List.getD_eq_getElem?_getD]
    unfold zer
    rw [List.getElem?_replicate]
    split <;> simp
theorem foldl_same {α β : Type} {F G : β → α → β} : ∀ (gs : List α) (f : β), (∀ f, ∀ g ∈ gs, F f g = G f g) → gs.foldl F f = gs.foldl G f
  | [], _, _ => rfl
  | g :: gs, f, h => by
    rw [List.foldl_cons, List.foldl_cons, h f g List.mem_cons_self]
    exact foldl_same gs _ fun f g hg => h f g (List.mem_cons_of_mem _ hg)
theorem mle_ft1 {p : Int} {below X : List Int} {gs : List WG} {n : Nat} (hn : n = 2 ^ X.length) (h : ∀ q ∈ gs, wgOK p n q) : Cg p (mle (ft1 p below gs (zer n)) X) (gs.map fun q => wt X q.x.toNat * (q.a + q.c * gi below q.y)).sum := by
  have z := mle_foldset (p := p) (X := X) (fun q => q.x.toNat) (fun q => q.a + q.c * gi below q.y) gs (zer n) (by rw [zer_len]; exact hn) fun q hq => by
    have := (h q hq).2.2.2.1
    omega
  rw [mle_zer, Int.zero_add] at z
  refine Cg.trans (.of_eq ?_) z
  refine congrArg (fun f => mle f X) ?_
  unfold ft1
  refine foldl_same gs _ fun f g hg => ?_
  have := (h g hg).2.2.2.1
  rw [show ((g.x.toNat : Nat) : Int) = g.x by omega, Int.add_assoc]
theorem mle_rs1 {p : Int} {below X : List Int} {gs : List WG} {n : Nat} (hn : n = 2 ^ X.length) (h : ∀ q ∈ gs, wgOK p n q) : Cg p (mle (rs1 p below gs (zer n)) X) (gs.map fun q => wt X q.x.toNat * (q.b * gi below q.y)).sum := by
  have z := mle_foldset (p := p) (X := X) (fun q => q.x.toNat) (fun q => q.b * gi below q.y) gs (zer n) (by rw [zer_len]; exact hn) fun q hq => by
    have := (h q hq).2.2.2.1
    omega
  rw [mle_zer, Int.zero_add] at z
  refine Cg.trans (.of_eq ?_) z
  refine congrArg (fun f => mle f X) ?_
  unfold rs1
  refine foldl_same gs _ fun f g hg => ?_
  have := (h g hg).2.2.2.1
  rw [show ((g.x.toNat : Nat) : Int) = g.x by omega]
theorem mle_ft2 {p v : Int} {w X : List Int} {gs : List WG} {n : Nat} (hn : n = 2 ^ X.length) (h : ∀ q ∈ gs, wgOK p n q) : Cg p (mle (ft2 p w v gs (zer n)) X) (gs.map fun q => wt X q.y.toNat * (gi w q.x * (q.b + q.c * v))).sum := by
  have z := mle_foldset (p := p) (X := X) (fun q => q.y.toNat) (fun q => gi w q.x * (q.b + q.c * v)) gs (zer n) (by rw [zer_len]; exact hn) fun q hq => by
    have := (h q hq).2.2.2.2
    omega
  rw [mle_zer, Int.zero_add] at z
  refine Cg.trans (.of_eq ?_) z
  refine congrArg (fun f => mle f X) ?_
  unfold ft2
  refine foldl_same gs _ fun f g hg => ?_
  have := (h g hg).2.2.2.2
  rw [show ((g.y.toNat : Nat) : Int) = g.y by omega]
theorem mle_rs2 {p v : Int} {w X : List Int} {gs : List WG} {n : Nat} (hn : n = 2 ^ X.length) (h : ∀ q ∈ gs, wgOK p n q) : Cg p (mle (rs2 p w v gs (zer n)) X) (gs.map fun q => wt X q.y.toNat * (gi w q.x * q.a % p * v)).sum := by
  have z := mle_foldset (p := p) (X := X) (fun q => q.y.toNat) (fun q => gi w q.x * q.a % p * v) gs (zer n) (by rw [zer_len]; exact hn) fun q hq => by
    have := (h q hq).2.2.2.2
    omega
  rw [mle_zer, Int.zero_add] at z
  refine Cg.trans (.of_eq ?_) z
  refine congrArg (fun f => mle f X) ?_
  unfold rs2
  refine foldl_same gs _ fun f g hg => ?_
  have := (h g hg).2.2.2.2
  rw [show ((g.y.toNat : Nat) : Int) = g.y by omega]



/-! ### the state by the throws so far -/
def fl1 (p : Int) (r t : List Int) : List Int := r.foldl (foldS p) t
structure Base (s : AS) (gs : List WG) (P1 : List Int) (C0 : List (List Int)) (r : List Int) : Prop where
  gates : s.gates = gs
  round : s.round = r.length
  near : s.near = fl1 s.c.p (r.take s.b) P1
  cols : s.cols = C0.map fun q => fl1 s.c.p (r.take s.b) q
  first : s.first = (r.drop s.b).take s.wide
  second : s.second = (r.drop (s.b + s.wide)).take s.wide
structure PhS (s : AS) : Prop where
  share : s.share = gi s.near 0
  below : s.below = s.cols.map fun c => gi c 0
structure Ph1 (s : AS) (r : List Int) : Prop extends PhS s where
  fac : s.fac = fl1 s.c.p (r.drop s.b) (ft1 s.c.p s.below s.gates (zer s.below.length))
  rest : s.rest = fl1 s.c.p (r.drop s.b) (rs1 s.c.p s.below s.gates (zer s.below.length))
  left : s.left = fl1 s.c.p (r.drop s.b) s.below
structure Ph2 (s : AS) (r : List Int) : Prop extends PhS s where
  fac : s.fac = fl1 s.c.p ((r.drop (s.b + s.wide)).take s.wide) (ft2 s.c.p (pointT s.first s.c.p) (gi (fl1 s.c.p ((r.drop s.b).take s.wide) s.below) 0) s.gates (zer s.below.length))
  rest : s.rest = fl1 s.c.p ((r.drop (s.b + s.wide)).take s.wide) (rs2 s.c.p (pointT s.first s.c.p) (gi (fl1 s.c.p ((r.drop s.b).take s.wide) s.below) 0) s.gates (zer s.below.length))
  left : s.left = fl1 s.c.p ((r.drop (s.b + s.wide)).take s.wide) s.below
structure Inv (s : AS) (gs : List WG) (P1 : List Int) (C0 : List (List Int)) (r : List Int) : Prop where
  base : Base s gs P1 C0 r
  one : s.b ≤ r.length → r.length < s.b + s.wide → Ph1 s r
  two : s.b + s.wide ≤ r.length → Ph2 s r
structure Pre (s : AS) (gs : List WG) (P1 : List Int) (C0 : List (List Int)) (r : List Int) : Prop where
  base : Base s gs P1 C0 r
  one : s.b < r.length → r.length ≤ s.b + s.wide → Ph1 s r
  two : s.b + s.wide < r.length → Ph2 s r
theorem turn_inv {s : AS} {gs : List WG} {P1 : List Int} {C0 : List (List Int)} {r : List Int} (h : Pre s gs P1 C0 r) : Inv (turnF s) gs P1 C0 r := by
  have hb := h.base
  have hr := hb.round
  -- the first half
  have b1 : Base (turn1 s) gs P1 C0 r := by
    unfold turn1
    split
    · exact ⟨hb.gates, hb.round, hb.near, hb.cols, hb.first, hb.second⟩
    · exact hb
  have p1 : s.b ≤ r.length → r.length ≤ s.b + s.wide → Ph1 (turn1 s) r := fun h1 h2 => by
    by_cases e : s.round = s.b
    · have t1 : turn1 s = { s with share := gi s.near 0, below := s.cols.map fun c => gi c 0, fac := ft1 s.c.p (s.cols.map fun c => gi c 0) s.gates (zer s.cols.length), rest := rs1 s.c.p (s.cols.map fun c => gi c 0) s.gates (zer s.cols.length), left := s.cols.map fun c => gi c 0, steps := s.steps + (s.gates.length : Nat) } := if_pos e
      rw [t1]
      have e2 : r.drop s.b = [] := List.drop_eq_nil_of_le (by omega)
      refine ⟨⟨rfl, rfl⟩, ?_, ?_, ?_⟩
      · show ft1 _ _ _ _ = fl1 _ (r.drop s.b) (ft1 _ _ _ (zer (s.cols.map _).length))
        rw [e2, List.length_map]; rfl
      · show rs1 _ _ _ _ = fl1 _ (r.drop s.b) (rs1 _ _ _ (zer (s.cols.map _).length))
        rw [e2, List.length_map]; rfl
      · show s.cols.map _ = fl1 _ (r.drop s.b) (s.cols.map _)
        rw [e2]; rfl
    · have t1 : turn1 s = s := if_neg e
      rw [t1]
      exact h.one (by omega) h2
  have p2 : s.b + s.wide < r.length → Ph2 (turn1 s) r := fun h1 => by
    have t1 : turn1 s = s := if_neg (by omega)
    rw [t1]
    exact h.two h1
  have tr := turn1_r s
  have t2 : turnF s = turn2 (turn1 s) := rfl
  rw [t2]
  rw [← tr.2.1, ← tr.2.2.1] at p1 p2
  have hr1 : (turn1 s).round = r.length := b1.round
  generalize turn1 s = s1 at *
  unfold turn2
  split
  · rename_i e
    have q1 := p1 (by omega) (by omega)
    have e1 : (r.drop s1.b).take s1.wide = r.drop s1.b := List.take_of_length_le (by rw [List.length_drop]; omega)
    have e2 : (r.drop (s1.b + s1.wide)).take s1.wide = [] := by rw [List.drop_eq_nil_of_le (by omega)]; exact List.take_nil
    have el : gi s1.left 0 = gi (fl1 s1.c.p ((r.drop s1.b).take s1.wide) s1.below) 0 := by rw [e1, q1.left]
    refine ⟨⟨b1.gates, b1.round, b1.near, b1.cols, b1.first, b1.second⟩, fun h1 h2 => ?_, fun _ => ⟨⟨q1.share, q1.below⟩, ?_, ?_, ?_⟩⟩
    · have h2 : r.length < s1.b + s1.wide := h2
      omega
    · show ft2 _ _ _ _ _ = fl1 _ ((r.drop (s1.b + s1.wide)).take s1.wide) (ft2 _ _ (gi (fl1 s1.c.p ((r.drop s1.b).take s1.wide) s1.below) 0) _ _)
      rw [e2, el]; rfl
    · show rs2 _ _ _ _ _ = fl1 _ ((r.drop (s1.b + s1.wide)).take s1.wide) (rs2 _ _ (gi (fl1 s1.c.p ((r.drop s1.b).take s1.wide) s1.below) 0) _ _)
      rw [e2, el]; rfl
    · show s1.below = fl1 _ ((r.drop (s1.b + s1.wide)).take s1.wide) s1.below
      rw [e2]; rfl
  · rename_i e
    exact ⟨b1, fun h1 h2 => p1 h1 (by omega), fun h => p2 (by omega)⟩
theorem fl1_app {p z : Int} {r t : List Int} : fl1 p (r ++ [z]) t = foldS p (fl1 p r t) z := by unfold fl1; rw [List.foldl_append]; rfl
theorem take_app1 {r : List Int} {z : Int} {n : Nat} (h : n ≤ r.length) : (r ++ [z]).take n = r.take n := List.take_append_of_le_length h
theorem take_app2 {r : List Int} {z : Int} {n : Nat} (h : r.length < n) : (r ++ [z]).take n = r ++ [z] := List.take_of_length_le (by rw [List.length_append]; show r.length + 1 ≤ n; omega)
theorem drop_app1 {r : List Int} {z : Int} {n : Nat} (h : n ≤ r.length) : (r ++ [z]).drop n = r.drop n ++ [z] := List.drop_append_of_le_length h
theorem throw_inv {s : AS} {gs : List WG} {P1 : List Int} {C0 : List (List Int)} {r : List Int} (h : Inv s gs P1 C0 r) {z : Int} (hr : r.length < s.b + 2 * s.wide) : Inv (throwF s z) gs P1 C0 (r ++ [z]) := by
  have hb := h.base
  have er := hb.round
  refine turn_inv ?_
  have rl : (r ++ [z]).length = r.length + 1 := by rw [List.length_append]; rfl
  by_cases h1 : s.round < s.b
  · have em : midF s z = { s with near := foldS s.c.p s.near z, cols := s.cols.map fun c => foldS s.c.p c z } := if_pos h1
    rw [em]
    refine ⟨⟨hb.gates, by show s.round + 1 = _; omega, ?_, ?_, ?_, ?_⟩, fun h => ?_, fun h => ?_⟩
    · show foldS s.c.p s.near z = fl1 s.c.p ((r ++ [z]).take s.b) P1
      rw [take_app2 (by omega), fl1_app, hb.near, List.take_of_length_le (by omega)]
    · show s.cols.map _ = C0.map fun q => fl1 s.c.p ((r ++ [z]).take s.b) q
      rw [take_app2 (by omega), hb.cols, List.map_map, List.take_of_length_le (show r.length ≤ s.b by omega)]
      refine List.map_congr_left fun q _ => ?_
      show foldS _ (fl1 _ _ _) _ = _
      rw [fl1_app]
    · show s.first = ((r ++ [z]).drop s.b).take s.wide
      rw [hb.first, List.drop_eq_nil_of_le (show r.length ≤ s.b by omega), List.drop_eq_nil_of_le (by omega)]
    · show s.second = ((r ++ [z]).drop (s.b + s.wide)).take s.wide
      rw [hb.second, List.drop_eq_nil_of_le (show r.length ≤ s.b + s.wide by omega), List.drop_eq_nil_of_le (by omega)]
    · have h : s.b < (r ++ [z]).length := h
      omega
    · have h : s.b + s.wide < (r ++ [z]).length := h
      omega
  · have em : midF s z = { s with fac := foldS s.c.p s.fac z, rest := foldS s.c.p s.rest z, left := foldS s.c.p s.left z, first := if s.round < s.b + s.wide then s.first ++ [z] else s.first, second := if s.round < s.b + s.wide then s.second else s.second ++ [z] } := by
      unfold midF; rw [if_neg h1, if_pos (by omega)]
    rw [em]
    have d1 : (r ++ [z]).drop s.b = r.drop s.b ++ [z] := drop_app1 (by omega)
    by_cases y : s.round < s.b + s.wide
    · rw [if_pos y, if_pos y]
      have q := h.one (by omega) (by omega)
      have dl : (r.drop s.b).length < s.wide := by rw [List.length_drop]; omega
      refine ⟨⟨hb.gates, by show s.round + 1 = _; omega, ?_, ?_, ?_, ?_⟩, fun _ _ => ⟨⟨q.share, q.below⟩, ?_, ?_, ?_⟩, fun h => ?_⟩
      · show s.near = fl1 s.c.p ((r ++ [z]).take s.b) P1
        rw [take_app1 (by omega)]; exact hb.near
      · show s.cols = C0.map fun q => fl1 s.c.p ((r ++ [z]).take s.b) q
        rw [take_app1 (by omega)]; exact hb.cols
      · show s.first ++ [z] = ((r ++ [z]).drop s.b).take s.wide
        rw [d1, take_app2 dl, hb.first, List.take_of_length_le (by omega)]
      · show s.second = ((r ++ [z]).drop (s.b + s.wide)).take s.wide
        rw [hb.second, List.drop_eq_nil_of_le (show r.length ≤ s.b + s.wide by omega), List.drop_eq_nil_of_le (by omega)]
      · show foldS _ s.fac z = fl1 s.c.p ((r ++ [z]).drop s.b) _
        rw [d1, fl1_app, q.fac]
      · show foldS _ s.rest z = fl1 s.c.p ((r ++ [z]).drop s.b) _
        rw [d1, fl1_app, q.rest]
      · show foldS _ s.left z = fl1 s.c.p ((r ++ [z]).drop s.b) _
        rw [d1, fl1_app, q.left]
      · have h : s.b + s.wide < (r ++ [z]).length := h
        omega
    · rw [if_neg y, if_neg y]
      have q := h.two (by omega)
      have d2 : (r ++ [z]).drop (s.b + s.wide) = r.drop (s.b + s.wide) ++ [z] := drop_app1 (by omega)
      have dl : (r.drop (s.b + s.wide)).length < s.wide := by rw [List.length_drop]; omega
      have d3 : ((r ++ [z]).drop (s.b + s.wide)).take s.wide = ((r.drop (s.b + s.wide)).take s.wide) ++ [z] := by rw [d2, take_app2 dl, List.take_of_length_le (show (r.drop (s.b + s.wide)).length ≤ s.wide by omega)]
      have d4 : ((r ++ [z]).drop s.b).take s.wide = (r.drop s.b).take s.wide := by rw [d1, take_app1 (by rw [List.length_drop]; omega)]
      refine ⟨⟨hb.gates, by show s.round + 1 = _; omega, ?_, ?_, ?_, ?_⟩, fun h1 h2 => ?_, fun _ => ⟨⟨q.share, q.below⟩, ?_, ?_, ?_⟩⟩
      · show s.near = fl1 s.c.p ((r ++ [z]).take s.b) P1
        rw [take_app1 (by omega)]; exact hb.near
      · show s.cols = C0.map fun q => fl1 s.c.p ((r ++ [z]).take s.b) q
        rw [take_app1 (by omega)]; exact hb.cols
      · show s.first = ((r ++ [z]).drop s.b).take s.wide
        rw [d4]; exact hb.first
      · show s.second ++ [z] = ((r ++ [z]).drop (s.b + s.wide)).take s.wide
        rw [d3, hb.second]
      · have h2 : (r ++ [z]).length ≤ s.b + s.wide := h2
        omega
      · show foldS _ s.fac z = fl1 s.c.p (((r ++ [z]).drop (s.b + s.wide)).take s.wide) (ft2 s.c.p (pointT s.first s.c.p) (gi (fl1 s.c.p (((r ++ [z]).drop s.b).take s.wide) s.below) 0) s.gates _)
        rw [d3, d4, fl1_app, q.fac]
      · show foldS _ s.rest z = fl1 s.c.p (((r ++ [z]).drop (s.b + s.wide)).take s.wide) (rs2 s.c.p (pointT s.first s.c.p) (gi (fl1 s.c.p (((r ++ [z]).drop s.b).take s.wide) s.below) 0) s.gates _)
        rw [d3, d4, fl1_app, q.rest]
      · show foldS _ s.left z = fl1 s.c.p (((r ++ [z]).drop (s.b + s.wide)).take s.wide) s.below
        rw [d3, fl1_app, q.left]
theorem poly_inv {s : AS} {gs : List WG} {P1 : List Int} {C0 : List (List Int)} {r : List Int} (h : Inv s gs P1 C0 r) : Inv (polyS s) gs P1 C0 r :=
  ⟨⟨h.base.gates, h.base.round, h.base.near, h.base.cols, h.base.first, h.base.second⟩, fun h1 h2 => by
    have q := h.one h1 h2
    exact ⟨⟨q.share, q.below⟩, q.fac, q.rest, q.left⟩, fun h1 => by
    have q := h.two h1
    exact ⟨⟨q.share, q.below⟩, q.fac, q.rest, q.left⟩⟩



/-! ### the polynomials are the sums -/
def Fsp (P1 B : List Int) (b w : Nat) (gs : List WG) (z : List Int) : Int := mle P1 (z.take b) * WGsum gs ((z.drop b).take w) (z.drop (b + w)) (mle B (z.take b ++ (z.drop b).take w)) (mle B (z.take b ++ z.drop (b + w)))
def sumF (P1 B : List Int) (b w : Nat) (gs : List WG) (r : List Int) : Int := S (2 ^ (b + 2 * w - r.length)) fun k => Fsp P1 B b w gs (r ++ corn k (b + 2 * w - r.length))
structure Ctx (p : Int) (P1 B : List Int) (b w : Nat) (gs : List WG) : Prop where
  pl : P1.length = 2 ^ b
  bl : B.length = 2 ^ b * 2 ^ w
  g : ∀ q ∈ gs, wgOK p (2 ^ w) q
theorem Fsp_parts {P1 B : List Int} {b w : Nat} {gs : List WG} {R X Y : List Int} (hR : R.length = b) (hX : X.length = w) : Fsp P1 B b w gs (R ++ (X ++ Y)) = mle P1 R * WGsum gs X Y (mle B (R ++ X)) (mle B (R ++ Y)) := by
  subst hR; subst hX
  unfold Fsp
  rw [List.take_left, List.drop_left, List.take_left, ← List.drop_drop, List.drop_left, List.drop_left]
theorem colT_len {B : List Int} {b w x : Nat} (hB : B.length = 2 ^ b * 2 ^ w) (hx : x < 2 ^ w) : (colT B b x).length = 2 ^ b := by
  unfold colT
  have h1 := Nat.mul_le_mul_left (2 ^ b) (show x + 1 ≤ 2 ^ w by omega)
  have h2 : 2 ^ b * (x + 1) = 2 ^ b * x + 2 ^ b := Nat.mul_succ _ _
  rw [List.length_take, List.length_drop]
  omega
theorem S_prod {F : Nat → Int} {m w : Nat} : S (2 ^ (m + w)) F = S (2 ^ m) fun i => S (2 ^ w) fun x => F (i + 2 ^ m * x) := by
  rw [Nat.pow_add, S_split, S_swap2]
  exact S_congr _ fun i _ => S_congr _ fun x _ => by rw [Nat.add_comm]
theorem S_mulR {c : Int} {f : Nat → Int} {n : Nat} : S n (fun i => f i * c) = S n f * c := by
  rw [Int.mul_comm, ← S_mul]
  exact S_congr _ fun i _ => Int.mul_comm _ _
theorem gsum_cg {p : Int} {gs : List WG} {cc : List Int} {U : Nat → Int} {n : Nat} (hg : ∀ q ∈ gs, wgOK p n q) (h : ∀ x < n, Cg p (gi cc (x : Nat)) (U x)) : Cg p (gsum p gs cc) (gs.map fun q => gF q (U q.x.toNat) (U q.y.toNat)).sum := by
  unfold gsum
  refine Cg.mod.trans (sum_cg gs fun q hq => ?_)
  obtain ⟨_, _, _, ⟨x0, x1⟩, y0, y1⟩ := hg q hq
  have hx := h q.x.toNat (by omega)
  have hy := h q.y.toNat (by omega)
  rw [show ((q.x.toNat : Nat) : Int) = q.x by omega] at hx
  rw [show ((q.y.toNat : Nat) : Int) = q.y by omega] at hy
  unfold gF
  exact Cg.add (Cg.add (Cg.mul .refl hx) (Cg.mul .refl hy)) (Cg.mul (Cg.mod.trans (Cg.mul .refl hx)) hy)
theorem corn3 {m w i x y : Nat} (hi : i < 2 ^ m) (hx : x < 2 ^ w) : corn (i + 2 ^ m * (x + 2 ^ w * y)) (m + (w + w)) = corn i m ++ (corn x w ++ corn y w) := by
  rw [corn_app m i _ _ hi, corn_app w x _ _ hx]
theorem foldset_len {α : Type} (i : α → Nat) (v : List Int → α → Int) : ∀ (gs : List α) {f : List Int}, (gs.foldl (fun f g => f.set (i g) (v f g)) f).length = f.length
  | [], _ => rfl
  | g :: gs, f => by
    rw [List.foldl_cons, foldset_len i v gs, List.length_set]
theorem row_sum {p : Int} {P1 B : List Int} {b w : Nat} {gs : List WG} (C : Ctx p P1 B b w gs) {s : AS} {r : List Int} (hp : s.c.p = p) (hb : s.b = b) (hw : s.wide = w) (h : Inv s gs P1 ((List.range (2 ^ w)).map fun k => colT B b k) r) (hr : r.length < b) (t : Int) :
    Cg p (rowV s t) (sumF P1 B b w gs (r ++ [t])) := by
  subst hp
  have hB := h.base
  have eN : s.near = fl1 s.c.p r P1 := by rw [hB.near, hb, List.take_of_length_le (by omega)]
  have eC : s.cols = (List.range (2 ^ w)).map fun k => fl1 s.c.p r (colT B b k) := by
    rw [hB.cols, hb, List.take_of_length_le (by omega), List.map_map]; rfl
  obtain ⟨m, hm⟩ : ∃ m, b = r.length + (m + 1) := ⟨b - r.length - 1, by omega⟩
  have flen : ∀ t : List Int, t.length = 2 ^ b → (fl1 s.c.p r t).length = 2 ^ (m + 1) := fun t ht => foldl_len r t (m + 1) (by rw [ht, hm])
  have hN2 : s.near.length / 2 = 2 ^ m := by rw [eN, flen P1 C.pl, Nat.pow_succ, Nat.mul_div_cancel _ (by decide)]
  have rl : (r ++ [t]).length = r.length + 1 := by rw [List.length_append]; rfl
  have many : b + 2 * w - (r ++ [t]).length = m + (w + w) := by omega
  unfold rowV sumF
  rw [hN2, many, S_prod, hB.gates]
  refine Cg.mod.trans (S_cg _ fun i hi => ?_)
  have key : S (2 ^ (w + w)) (fun k => Fsp P1 B b w gs (r ++ [t] ++ corn (i + 2 ^ m * k) (m + (w + w)))) = mle P1 (r ++ (t :: corn i m)) * (gs.map fun q => gF q (mle (colT B b q.x.toNat) (r ++ (t :: corn i m))) (mle (colT B b q.y.toNat) (r ++ (t :: corn i m)))).sum := by
    have Rl : (r ++ (t :: corn i m)).length = b := by rw [List.length_append, List.length_cons, corn_len]; omega
    rw [S_prod]
    have e1 : ∀ x < 2 ^ w, ∀ y < 2 ^ w, Fsp P1 B b w gs (r ++ [t] ++ corn (i + 2 ^ m * (x + 2 ^ w * y)) (m + (w + w))) = mle P1 (r ++ (t :: corn i m)) * WGsum gs (corn x w) (corn y w) (mle (colT B b x) (r ++ (t :: corn i m))) (mle (colT B b y) (r ++ (t :: corn i m))) := fun x hx y hy => by
      rw [corn3 hi hx, show r ++ [t] ++ (corn i m ++ (corn x w ++ corn y w)) = (r ++ (t :: corn i m)) ++ (corn x w ++ corn y w) by simp, Fsp_parts Rl corn_len, mle_col Rl hx, mle_col Rl hy]
    rw [S_congr (2 ^ w) fun x hx => (S_congr (2 ^ w) fun y hy => e1 x hx y hy)]
    rw [S_congr (2 ^ w) fun x hx => S_mul (2 ^ w), S_mul]
    rw [wg_corn (U := fun x => mle (colT B b x) (r ++ (t :: corn i m))) (V := fun y => mle (colT B b y) (r ++ (t :: corn i m))) fun q hq => by
      obtain ⟨_, _, _, ⟨x0, x1⟩, y0, y1⟩ := C.g q hq
      constructor <;> omega]
  rw [key]
  have cl : (t :: corn i m).length = m + 1 := by rw [List.length_cons, corn_len]
  have tc : ∀ T : List Int, T.length = 2 ^ b → Cg s.c.p (mle T (r ++ (t :: corn i m))) (atN (fl1 s.c.p r T) i t) := fun T hT => by
    refine (mle_app (p := s.c.p) r (t :: corn i m) T (by rw [hT, cl, hm])).trans (.of_eq ?_)
    exact mle_tcorn hi
  refine Cg.mul (Cg.mod.trans ?_) (gsum_cg (U := fun x => mle (colT B b x) (r ++ (t :: corn i m))) C.g fun x hx => ?_)
  · rw [eN]; exact (tc P1 C.pl).symm
  · have e : gi (s.cols.map fun c => atN c i t % s.c.p) (x : Nat) = atN (fl1 s.c.p r (colT B b x)) i t % s.c.p := by
      rw [eC, List.map_map]
      exact gi_range hx
    rw [e]
    exact Cg.mod.trans (tc _ (colT_len C.bl hx)).symm
/-- what lies below, at the thrown rows -/
theorem below_cg {p : Int} {B R : List Int} {b w : Nat} {below : List Int} (hB : B.length = 2 ^ b * 2 ^ w) (hR : R.length = b) (hbe : below = (List.range (2 ^ w)).map fun k => gi (fl1 p R (colT B b k)) 0) {h : Nat} (hh : h < 2 ^ w) : Cg p (gi below (h : Nat)) (mle (colT B b h) R) := by
  rw [hbe, gi_range hh]
  have z := mle_app (p := p) R [] (colT B b h) (by rw [colT_len hB hh, List.length_nil, Nat.add_zero, hR])
  rw [List.append_nil, mle_nil] at z
  exact z.symm
theorem mleB_cg {p : Int} {B R X : List Int} {b w : Nat} {below : List Int} (hB : B.length = 2 ^ b * 2 ^ w) (hR : R.length = b) (hX : X.length = w) (hbe : below = (List.range (2 ^ w)).map fun k => gi (fl1 p R (colT B b k)) 0) : Cg p (mle B (R ++ X)) (mle below X) := by
  rw [mle_two hR, hX]
  unfold mle
  rw [hX]
  exact S_cg _ fun h hh => Cg.mul .refl (below_cg hB hR hbe hh).symm
theorem ph_below {p : Int} {P1 B : List Int} {b w : Nat} {gs : List WG} {s : AS} {r : List Int} (hp : s.c.p = p) (hb : s.b = b) (hB : Base s gs P1 ((List.range (2 ^ w)).map fun k => colT B b k) r) (ph : PhS s) : s.below = (List.range (2 ^ w)).map fun k => gi (fl1 p (r.take b) (colT B b k)) 0 := by
  subst hp; subst hb
  rw [ph.below, hB.cols, List.map_map, List.map_map]; rfl
theorem ph_share {p : Int} {P1 B : List Int} {b w : Nat} {gs : List WG} (C : Ctx p P1 B b w gs) {s : AS} {r : List Int} (hp : s.c.p = p) (hb : s.b = b) {C0 : List (List Int)} (hB : Base s gs P1 C0 r) (ph : PhS s) (hr : b ≤ r.length) : Cg p s.share (mle P1 (r.take b)) := by
  subst hp; subst hb
  rw [ph.share, hB.near]
  have z := mle_app (p := s.c.p) (r.take s.b) [] P1 (by rw [C.pl, List.length_nil, Nat.add_zero, List.length_take, Nat.min_eq_left hr])
  rw [List.append_nil, mle_nil] at z
  exact z.symm
theorem lin1 (X : List Int) (U : Int) (be : List Int) : ∀ gs : List WG, (gs.map fun q => wt X q.x.toNat * (q.a + q.c * gi be q.y)).sum * U + (gs.map fun q => wt X q.x.toNat * (q.b * gi be q.y)).sum = (gs.map fun q => wt X q.x.toNat * gF q U (gi be q.y)).sum
  | [] => by show 0 * U + 0 = (0 : Int); omega
  | q :: gs => by
    have ih := lin1 X U be gs
    simp only [List.map_cons, List.sum_cons]
    rw [← ih]
    unfold gF
    grind
theorem lin2 (F G : WG → Int) (V : Int) : ∀ gs : List WG, (gs.map F).sum * V + (gs.map G).sum = (gs.map fun q => F q * V + G q).sum
  | [] => by show 0 * V + 0 = (0 : Int); omega
  | q :: gs => by
    have ih := lin2 F G V gs
    simp only [List.map_cons, List.sum_cons]
    rw [← ih]
    grind
theorem col_sum1 {p : Int} {P1 B : List Int} {b w : Nat} {gs : List WG} (C : Ctx p P1 B b w gs) {s : AS} {r : List Int} (hp : s.c.p = p) (hb : s.b = b) (hw : s.wide = w) (h : Inv s gs P1 ((List.range (2 ^ w)).map fun k => colT B b k) r) (hr : b ≤ r.length) (hr2 : r.length < b + w) (t : Int) :
    Cg p (colV s t) (sumF P1 B b w gs (r ++ [t])) := by
  have hB := h.base
  have ph := h.one (by omega) (by omega)
  have hbe := ph_below hp hb hB ph.toPhS
  have hsh := ph_share C hp hb hB ph.toPhS hr
  subst hp
  have Rl : (r.take b).length = b := by rw [List.length_take, Nat.min_eq_left hr]
  have er : r = r.take b ++ r.drop b := (List.take_append_drop b r).symm
  have X0l : (r.drop b).length = r.length - b := List.length_drop ..
  obtain ⟨m, hm⟩ : ∃ m, w = (r.drop b).length + (m + 1) := ⟨w - (r.drop b).length - 1, by omega⟩
  have bl : s.below.length = 2 ^ w := by rw [hbe, List.length_map, List.length_range]
  have flen : ∀ t : List Int, t.length = 2 ^ w → (fl1 s.c.p (r.drop b) t).length = 2 ^ (m + 1) := fun t ht => foldl_len (r.drop b) t (m + 1) (by rw [ht, hm])
  have eL : s.left = fl1 s.c.p (r.drop b) s.below := by rw [ph.left, hb]
  have hN2 : s.left.length / 2 = 2 ^ m := by rw [eL, flen _ bl, Nat.pow_succ, Nat.mul_div_cancel _ (by decide)]
  have rl : (r ++ [t]).length = r.length + 1 := by rw [List.length_append]; rfl
  have many : b + 2 * w - (r ++ [t]).length = m + w := by omega
  unfold colV sumF
  rw [hN2, many, S_prod]
  refine Cg.mod.trans ?_
  rw [← S_mulR]
  refine S_cg _ fun i hi => ?_
  have cl : (t :: corn i m).length = m + 1 := by rw [List.length_cons, corn_len]
  have Xl : (r.drop b ++ (t :: corn i m)).length = w := by rw [List.length_append, cl]; omega
  have key : S (2 ^ w) (fun k => Fsp P1 B b w gs (r ++ [t] ++ corn (i + 2 ^ m * k) (m + w))) = mle P1 (r.take b) * (gs.map fun q => wt (r.drop b ++ (t :: corn i m)) q.x.toNat * gF q (mle B (r.take b ++ (r.drop b ++ (t :: corn i m)))) (mle (colT B b q.y.toNat) (r.take b))).sum := by
    have e1 : ∀ y < 2 ^ w, Fsp P1 B b w gs (r ++ [t] ++ corn (i + 2 ^ m * y) (m + w)) = mle P1 (r.take b) * WGsum gs (r.drop b ++ (t :: corn i m)) (corn y w) (mle B (r.take b ++ (r.drop b ++ (t :: corn i m)))) (mle (colT B b y) (r.take b)) := fun y hy => by
      have e0 : r ++ [t] ++ corn (i + 2 ^ m * y) (m + w) = r.take b ++ ((r.drop b ++ (t :: corn i m)) ++ corn y w) := by
        rw [corn_app m i y w hi, show r ++ [t] ++ (corn i m ++ corn y w) = (r.take b ++ r.drop b) ++ [t] ++ (corn i m ++ corn y w) by rw [← er]]
        simp only [List.append_assoc, List.cons_append, List.nil_append]
      rw [e0, Fsp_parts Rl Xl, mle_col Rl hy]
    rw [S_congr (2 ^ w) fun y hy => e1 y hy, S_mul]
    rw [wg_corn1 (V := fun y => mle (colT B b y) (r.take b)) fun q hq => by
      obtain ⟨_, _, _, ⟨x0, x1⟩, y0, y1⟩ := C.g q hq
      omega]
  rw [key, Int.mul_comm (_ + _)]
  refine Cg.mul hsh ?_
  have tc : ∀ T : List Int, T.length = 2 ^ w → Cg s.c.p (mle T (r.drop b ++ (t :: corn i m))) (atN (fl1 s.c.p (r.drop b) T) i t) := fun T hT => by
    refine (mle_app (p := s.c.p) (r.drop b) (t :: corn i m) T (by rw [hT, cl, hm])).trans (.of_eq ?_)
    exact mle_tcorn hi
  have ef := (tc _ (show (ft1 s.c.p s.below gs (zer (2 ^ w))).length = 2 ^ w from (foldset_len _ _ _).trans zer_len)).symm.trans (mle_ft1 (by rw [Xl]) C.g)
  have eg := (tc _ (show (rs1 s.c.p s.below gs (zer (2 ^ w))).length = 2 ^ w from (foldset_len _ _ _).trans zer_len)).symm.trans (mle_rs1 (by rw [Xl]) C.g)
  have el := (tc _ bl).symm.trans (mleB_cg C.bl Rl Xl hbe).symm
  rw [ph.fac, ph.rest, eL, hb, hB.gates, bl]
  refine (Cg.add (Cg.mul ef el) eg).trans ?_
  refine Cg.trans (b := (gs.map fun q => wt (r.drop b ++ (t :: corn i m)) q.x.toNat * gF q (mle B (r.take b ++ (r.drop b ++ (t :: corn i m)))) (gi s.below q.y)).sum) ?_ ?_
  · exact .of_eq (lin1 _ _ _ gs)
  · refine sum_cg gs fun q hq => ?_
    obtain ⟨_, _, _, ⟨x0, x1⟩, y0, y1⟩ := C.g q hq
    have z := below_cg (p := s.c.p) C.bl Rl hbe (h := q.y.toNat) (by omega)
    rw [show ((q.y.toNat : Nat) : Int) = q.y by omega] at z
    unfold gF
    exact Cg.mul .refl (Cg.add (Cg.add .refl (Cg.mul .refl z)) (Cg.mul .refl z))
theorem col_sum2 {p : Int} {P1 B : List Int} {b w : Nat} {gs : List WG} (C : Ctx p P1 B b w gs) {s : AS} {r : List Int} (hp : s.c.p = p) (hb : s.b = b) (hw : s.wide = w) (h : Inv s gs P1 ((List.range (2 ^ w)).map fun k => colT B b k) r) (hr : b + w ≤ r.length) (hr2 : r.length < b + 2 * w) (t : Int) :
    Cg p (colV s t) (sumF P1 B b w gs (r ++ [t])) := by
  have hB := h.base
  have ph := h.two (by omega)
  have hbe := ph_below hp hb hB ph.toPhS
  have hsh := ph_share C hp hb hB ph.toPhS (by omega)
  subst hp
  have Rl : (r.take b).length = b := by rw [List.length_take, Nat.min_eq_left (by omega)]
  have Xl : ((r.drop b).take w).length = w := by rw [List.length_take, List.length_drop]; omega
  have er : r = r.take b ++ ((r.drop b).take w ++ r.drop (b + w)) := by
    rw [← List.drop_drop, List.take_append_drop, List.take_append_drop]
  have Y0l : (r.drop (b + w)).length = r.length - (b + w) := List.length_drop ..
  obtain ⟨m, hm⟩ : ∃ m, w = (r.drop (b + w)).length + (m + 1) := ⟨w - (r.drop (b + w)).length - 1, by omega⟩
  have bl : s.below.length = 2 ^ w := by rw [hbe, List.length_map, List.length_range]
  have eY : (r.drop (b + w)).take w = r.drop (b + w) := List.take_of_length_le (by omega)
  have flen : ∀ t : List Int, t.length = 2 ^ w → (fl1 s.c.p (r.drop (b + w)) t).length = 2 ^ (m + 1) := fun t ht => foldl_len (r.drop (b + w)) t (m + 1) (by rw [ht, ← hm])
  have eL : s.left = fl1 s.c.p (r.drop (b + w)) s.below := by rw [ph.left, hb, hw, eY]
  have hN2 : s.left.length / 2 = 2 ^ m := by rw [eL, flen _ bl, Nat.pow_succ, Nat.mul_div_cancel _ (by decide)]
  have rl : (r ++ [t]).length = r.length + 1 := by rw [List.length_append]; rfl
  have many : b + 2 * w - (r ++ [t]).length = m := by omega
  unfold colV sumF
  rw [hN2, many]
  refine Cg.mod.trans ?_
  rw [← S_mulR]
  refine S_cg _ fun i hi => ?_
  have cl : (t :: corn i m).length = m + 1 := by rw [List.length_cons, corn_len]
  have Yl : (r.drop (b + w) ++ (t :: corn i m)).length = w := by rw [List.length_append, cl]; omega
  have e0 : r ++ [t] ++ corn i m = r.take b ++ ((r.drop b).take w ++ (r.drop (b + w) ++ (t :: corn i m))) := by
    rw [show r ++ [t] ++ corn i m = (r.take b ++ ((r.drop b).take w ++ r.drop (b + w))) ++ [t] ++ corn i m by rw [← er]]
    simp only [List.append_assoc, List.cons_append, List.nil_append]
  rw [e0, Fsp_parts Rl Xl, Int.mul_comm (_ + _)]
  refine Cg.mul hsh ?_
  have tc : ∀ T : List Int, T.length = 2 ^ w → Cg s.c.p (mle T (r.drop (b + w) ++ (t :: corn i m))) (atN (fl1 s.c.p (r.drop (b + w)) T) i t) := fun T hT => by
    refine (mle_app (p := s.c.p) (r.drop (b + w)) (t :: corn i m) T (by rw [hT, cl, ← hm])).trans (.of_eq ?_)
    exact mle_tcorn hi
  have hfirst : s.first = (r.drop b).take w := by rw [hB.first, hb, hw]
  obtain ⟨v, hv⟩ : ∃ v, v = gi (fl1 s.c.p ((r.drop b).take w) s.below) 0 := ⟨_, rfl⟩
  have ev : Cg s.c.p v (mle B (r.take b ++ (r.drop b).take w)) := by
    have z := mle_app (p := s.c.p) ((r.drop b).take w) [] s.below (by rw [bl, List.length_nil, Nat.add_zero, Xl])
    rw [List.append_nil, mle_nil] at z
    rw [hv]
    exact z.symm.trans (mleB_cg C.bl Rl Xl hbe).symm
  have ef := (tc _ (show (ft2 s.c.p (pointT ((r.drop b).take w) s.c.p) v gs (zer (2 ^ w))).length = 2 ^ w from (foldset_len _ _ _).trans zer_len)).symm.trans (mle_ft2 (by rw [Yl]) C.g)
  have eg := (tc _ (show (rs2 s.c.p (pointT ((r.drop b).take w) s.c.p) v gs (zer (2 ^ w))).length = 2 ^ w from (foldset_len _ _ _).trans zer_len)).symm.trans (mle_rs2 (by rw [Yl]) C.g)
  have el := (tc _ bl).symm.trans (mleB_cg C.bl Rl Yl hbe).symm
  rw [ph.fac, ph.rest, eL, hb, hw, hB.gates, bl, eY, hfirst, ← hv]
  refine (Cg.add (Cg.mul ef el) eg).trans ?_
  unfold WGsum
  generalize mle B (r.take b ++ (r.drop (b + w) ++ (t :: corn i m))) = V
  refine Cg.trans (b := (gs.map fun q => wt (r.drop (b + w) ++ (t :: corn i m)) q.y.toNat * (gi (pointT ((r.drop b).take w) s.c.p) q.x * (q.b + q.c * v)) * V + wt (r.drop (b + w) ++ (t :: corn i m)) q.y.toNat * (gi (pointT ((r.drop b).take w) s.c.p) q.x * q.a % s.c.p * v)).sum) ?_ ?_
  · exact .of_eq (lin2 _ _ _ gs)
  · refine sum_cg gs fun q hq => ?_
    obtain ⟨_, _, _, ⟨x0, x1⟩, y0, y1⟩ := C.g q hq
    have z := pointT_at (p := s.c.p) (pt := (r.drop b).take w) (z := q.x.toNat) (by rw [Xl]; omega)
    rw [show ((q.x.toNat : Nat) : Int) = q.x by omega] at z
    generalize wt (r.drop (b + w) ++ (t :: corn i m)) q.y.toNat = wy at *
    generalize mle B (r.take b ++ (r.drop b).take w) = U at *
    refine (Cg.add (Cg.mul (Cg.mul .refl (Cg.mul z (Cg.add .refl (Cg.mul .refl ev)))) .refl) (Cg.mul .refl (Cg.mul (Cg.mod.trans (Cg.mul z .refl)) ev))).trans (.of_eq ?_)
    unfold gF
    grind



/-! ### the laws' own nearness, values, weights -/
def nearL (p : Int) (a b : List Int) : Nat → Int
  | 0 => 1
  | k + 1 => nearL p a b k * (gi a (k : Nat) * gi b (k : Nat) + (1 - gi a (k : Nat)) * (1 - gi b (k : Nat))) % p
def C__law_near__2 : DC := fun ds m Φ _ => ∃ (a b : List Int) (p : Int), ds = [.lst (a.map D.int), .lst (b.map D.int), .int p] ∧ PM p ∧ InP p a ∧ InP p b ∧ a.length = b.length ∧ a.length ≤ 1000 ∧ Φ (.int (nearL p a b a.length)) m
def W__law_near__2 : DS := dSeq (dSet 3 (dC (.int 1))) (dSeq (dFor (diRng1 (dCons (dCB cLen (dCons (dVar 0) (dNil))) (dNil))) (dgName 4) (dSet 3 (dOp oMod (dCB cInt (dCons (dOp oMul (dVar 3) (dOp oAdd (dOp oMul (dOp oIx (dVar 0) (dVar 4)) (dOp oIx (dVar 1) (dVar 4))) (dOp oMul (dOp oSub (dC (.int 1)) (dOp oIx (dVar 0) (dVar 4))) (dOp oSub (dC (.int 1)) (dOp oIx (dVar 1) (dVar 4)))))) (dNil))) (dVar 2)))) (dRet (dVar 3)))
theorem nearL_in {p : Int} (hp : 2 ≤ p) {a b : List Int} : ∀ k : Nat, 0 ≤ nearL p a b k ∧ nearL p a b k < p
  | 0 => ⟨by show (0 : Int) ≤ 1; omega, by show (1 : Int) < p; omega⟩
  | k + 1 => mod_in hp
theorem rd__law_near__2 : ∀ ds m Φ Ψ, ds.length = 3 → C__law_near__2 ds m Φ Ψ → W__law_near__2 { nx := fun _ m' => Φ .non m', rt := Φ } (fun _ => Ψ) (ds.map some ++ List.replicate (5 - ds.length) none) m := by
  intro ds m Φ Ψ _ h
  obtain ⟨a, b, p, rfl, hp, ha, hb, hl, h1000, q⟩ := h
  have hp1 := hp.1
  have hp2 := hp.2
  change W__law_near__2 _ _ [some (.lst (a.map D.int)), some (.lst (b.map D.int)), some (.int p), none, none] m
  unfold W__law_near__2
  walk_at "stp"
  walk_at "nxt"
  refine ⟨⟨by omega, by omega⟩, ?_⟩
  rw [rngD0, Int.toNat_natCast]
  refine forW_nat (fun k ρ m' => ∃ v4 : Option D, ρ = [some (.lst (a.map D.int)), some (.lst (b.map D.int)), some (.int p), some (.int (nearL p a b k)), v4] ∧ m' = m) ?_ ?_ ⟨none, rfl, rfl⟩
  · rintro k kk hk hkk ρ m' ⟨v4, rfl, rfl⟩
    have na := nearL_in (a := a) (b := b) hp1 k
    have ga := ha.gN hk
    have gb := hb.gN (i := k) (by omega)
    walk_at "dx"
    refine ⟨_, atI_gi (by omega) (by omega), _, atI_gi (by omega) (by omega), mulR gb.1 (by omega), ?_⟩
    walk_at "dx"
    refine ⟨_, atI_gi (by omega) (by omega), ?_⟩
    walk_at "dx"
    refine ⟨_, atI_gi (by omega) (by omega), ?_⟩
    walk_at "dx"
    exact ⟨.inl ⟨by omega, by omega⟩, mulL na.1 (by omega), by omega, hkk _ _ ⟨_, rfl, rfl⟩⟩
  · rintro ρ m' ⟨v4, rfl, rfl⟩
    walk_at "lst"
    exact q
def C__law_corner : DC := fun ds m Φ _ => ∃ k n : Nat, ds = [.int (k : Nat), .int (n : Nat)] ∧ n ≤ 1000 ∧ Φ (.lst ((corn k n).map D.int)) m
def W__law_corner : DS := dRet (dLc (diRng1 (dCons (dVar 1) (dNil))) (dgName 2) (dYes) (dOp oMod (dCB cInt (dCons (dOp oShr (dVar 0) (dVar 2)) (dNil))) (dC (.int 2))) [2])
theorem shr_nat {k j : Nat} : ((k : Nat) : Int) / 2 ^ ((j : Nat) : Int).toNat = ((k / 2 ^ j : Nat) : Int) := by
  rw [Int.toNat_natCast, Int.natCast_ediv, Int.natCast_pow]; rfl
theorem rd__law_corner : ∀ ds m Φ Ψ, ds.length = 2 → C__law_corner ds m Φ Ψ → W__law_corner { nx := fun _ m' => Φ .non m', rt := Φ } (fun _ => Ψ) (ds.map some ++ List.replicate (3 - ds.length) none) m := by
  intro ds m Φ Ψ _ h
  obtain ⟨k, n, rfl, hn, q⟩ := h
  change W__law_corner _ _ [some (.int (k : Nat)), some (.int (n : Nat)), none] m
  unfold W__law_corner
  walk_at "dx"
  refine ⟨⟨by omega, by omega⟩, ?_⟩
  rw [rngD0, Int.toNat_natCast]
  refine lcW_fn (inj := fun i : Nat => D.int (i : Nat)) (out := D.int) (fun j : Nat => ((k / 2 ^ j % 2 : Nat) : Int)) m (List.range n) ?_ (fun _ => rfl) (by rw [List.length_range]; show _ ≤ 16777216; omega) q
  intro j hj m2 Θ hΘ
  walk_at "dx"
  refine ⟨by omega, by decide, ?_⟩
  rw [shr_nat, show ((k / 2 ^ j : Nat) : Int) % 2 = ((k / 2 ^ j % 2 : Nat) : Int) by omega]
  exact hΘ
theorem corn_in {p : Int} (hp : 2 ≤ p) {k n : Nat} : InP p (corn k n) := fun x hx => by
  obtain ⟨j, _, rfl⟩ := List.mem_map.mp hx
  omega
def nPf (a b : List Int) : Nat → Int
  | 0 => 1
  | k + 1 => nPf a b k * (gi a (k : Nat) * gi b (k : Nat) + (1 - gi a (k : Nat)) * (1 - gi b (k : Nat)))
theorem nPf_cons {x y : Int} {a b : List Int} : ∀ k : Nat, nPf (x :: a) (y :: b) (k + 1) = (x * y + (1 - x) * (1 - y)) * nPf a b k
  | 0 => by
    show 1 * (x * y + (1 - x) * (1 - y)) = _ * 1
    omega
  | k + 1 => by
    show nPf (x :: a) (y :: b) (k + 1) * (gi (x :: a) ((k + 1 : Nat) : Int) * gi (y :: b) ((k + 1 : Nat) : Int) + (1 - gi (x :: a) ((k + 1 : Nat) : Int)) * (1 - gi (y :: b) ((k + 1 : Nat) : Int))) = _
    rw [nPf_cons k]
    have e1 : gi (x :: a) ((k + 1 : Nat) : Int) = gi a (k : Nat) := by rw [gi_nat, gi_nat]; rfl
    have e2 : gi (y :: b) ((k + 1 : Nat) : Int) = gi b (k : Nat) := by rw [gi_nat, gi_nat]; rfl
    rw [e1, e2, Int.mul_assoc]; rfl
theorem nPf_pl : ∀ (a b : List Int), a.length = b.length → nPf a b a.length = nPl a b
  | [], [], _ => rfl
  | x :: a, y :: b, h => by
    rw [List.length_cons, nPf_cons, nPf_pl a b (by simpa using h)]; rfl
theorem nearL_f {p : Int} {a b : List Int} : ∀ k : Nat, Cg p (nearL p a b k) (nPf a b k)
  | 0 => .refl
  | k + 1 => Cg.mod.trans ((nearL_f k).mul .refl)
theorem nearL_cg {p : Int} {a b : List Int} (h : a.length = b.length) : Cg p (nearL p a b a.length) (nPl a b) := by
  rw [← nPf_pl a b h]
  exact nearL_f _
theorem nPl_corn {k n : Nat} {pt : List Int} (hk : k < 2 ^ n) (hn : pt.length = n) : nPl (corn k n) pt = wt pt k := by
  rw [← nPl_wt _ _ (by rw [corn_len, hn]), corn_len]
  exact S_corn (f := fun z => wt pt z) hk
theorem near_corn {p : Int} {k : Nat} {pt : List Int} (hk : k < 2 ^ pt.length) : Cg p (nearL p (corn k pt.length) pt (corn k pt.length).length) (wt pt k) := by
  rw [← nPl_corn (n := pt.length) hk rfl]
  exact nearL_cg corn_len
def C__law_value__2 : DC := fun ds m Φ _ => ∃ (t pt : List Int) (p : Int), ds = [.lst (t.map D.int), .lst (pt.map D.int), .int p] ∧ PM p ∧ InP p t ∧ InP p pt ∧ t.length = 2 ^ pt.length ∧ pt.length ≤ 16 ∧ Φ (.int (mle t pt % p)) m
def gD0 : Gate := .mul 0 0 0
def gA (X Y : List Int) : Gate → Int
  | .lin a x _ y => a * (wt X x.toNat * wt Y y.toNat)
  | .mul _ _ _ => 0
def gB (X Y : List Int) : Gate → Int
  | .lin _ x b y => b * (wt X x.toNat * wt Y y.toNat)
  | .mul _ _ _ => 0
def gC (X Y : List Int) : Gate → Int
  | .lin _ _ _ _ => 0
  | .mul c x y => c * (wt X x.toNat * wt Y y.toNat)
def wS (l : List Gate) (g : List Int) (f : Gate → Int) (n : Nat) : Int := S n fun k => wt g k * f (l.getD k gD0)
/-! ### a list taken apart -/
def dgUnl (is : List Nat) : DG := fun d ρ m k => match asL m d with
  | some ds => ds.length = is.length ∧ k (bindD is ds ρ) m
  | none => False
section
variable {X : Cx}
theorem jg_unl {es : List Expr} {k : Nat} (is : List Nat) {js : List Nat} {pos : Pos} (hc : X.calm = true) (hj : ∀ i ∈ is, i ∈ js) (h : PGs X es (gNames is)) (hn : (assignEach es X.env).length = is.length := by rfl)
    (hst : (assignEach es X.env).findIdx? (·.1) = none := by rfl) : PG X (.Tuple es k pos) (liftG X.K js (dgUnl is)) := PG.imp (pg_unl hc h hn hst) fun v σ H Q ⟨w, ρ, m, d, k, h, s, r, n, q⟩ => by
  unfold dgUnl at q
  split at q
  · rename_i ds e
    obtain ⟨a, xs, rfl, hq, rr⟩ := asL_ok h e r
    exact ⟨a, xs, rfl, hq, rr.length.trans q.1, gNames_ok is hj ds xs σ ρ _ q.1 rr s fun σ' s' e => n _ m w H σ' (.refl w) h s' e q.2⟩
  · exact q.elim
end
/-! ### the laws' sums -/
theorem zip_range {l : List Gate} {ws : List Int} (h : l.length = ws.length) : l.zip ws = (List.range l.length).map fun k => (l.getD k gD0, gi ws (k : Nat)) := by
  refine List.ext_getElem (by rw [List.length_zip, List.length_map, List.length_range, h, Nat.min_self]) fun i h1 h2 => ?_
  rw [List.length_map, List.length_range] at h2
  rw [List.getElem_zip, List.getElem_map, List.getElem_range, List.getD_eq_getElem?_getD, List.getElem?_eq_getElem h2, gi_nat, List.getD_eq_getElem?_getD, List.getElem?_eq_getElem (by omega)]; rfl
theorem wg_ws {p : Int} {l : List Gate} {g X Y : List Int} {u v : Int} (h : l.length = 2 ^ g.length) : Cg p (WGsum (wgts p l (pointT g p)) X Y u v) (wS l g (gA X Y) l.length * u + wS l g (gB X Y) l.length * v + wS l g (gC X Y) l.length * u * v) := by
  unfold WGsum wgts
  rw [zip_range (by rw [pointT_len, h]), List.map_map, List.map_map]
  rw [show ((List.range l.length).map _).sum = S l.length _ from sum_S l.length]
  unfold wS
  rw [← S_mulR, ← S_mulR, ← S_mulR, ← S_mulR, ← S_add, ← S_add]
  refine S_cg _ fun k hk => ?_
  have z := pointT_at (p := p) (pt := g) (z := k) (by omega)
  show Cg p (wt X (wgt p (gi (pointT g p) (k : Nat)) (l.getD k gD0)).x.toNat * wt Y (wgt p (gi (pointT g p) (k : Nat)) (l.getD k gD0)).y.toNat * gF (wgt p (gi (pointT g p) (k : Nat)) (l.getD k gD0)) u v) _
  generalize gi (pointT g p) (k : Nat) = w at z ⊢
  generalize l.getD k gD0 = q
  cases q with
  | lin a x b y =>
    show Cg p (wt X x.toNat * wt Y y.toNat * (a * w % p * u + b * w % p * v + 0 * u * v)) (wt g k * (a * (wt X x.toNat * wt Y y.toNat)) * u + wt g k * (b * (wt X x.toNat * wt Y y.toNat)) * v + wt g k * 0 * u * v)
    refine (Cg.mul .refl (Cg.add (Cg.add (Cg.mul (Cg.mod.trans (Cg.mul .refl z)) .refl) (Cg.mul (Cg.mod.trans (Cg.mul .refl z)) .refl)) .refl)).trans (.of_eq ?_)
    grind
  | mul c x y =>
    show Cg p (wt X x.toNat * wt Y y.toNat * (0 * u + 0 * v + c * w % p * u * v)) (wt g k * 0 * u + wt g k * 0 * v + wt g k * (c * (wt X x.toNat * wt Y y.toNat)) * u * v)
    refine (Cg.mul .refl (Cg.add .refl (Cg.mul (Cg.mul (Cg.mod.trans (Cg.mul .refl z)) .refl) .refl))).trans (.of_eq ?_)
    grind
def P1of (c : Cir) (b : Nat) (g : List Int) : List Int := pointT (g.take b) c.p
def gsof (c : Cir) (b l : Nat) (g : List Int) : List WG := wgts c.p (c.ls.getD l []) (pointT (g.drop b) c.p)
structure LayOK (c : Cir) (most wide b l : Nat) (B g : List Int) : Prop where
  ok : CirOK c most wide
  w3 : wide ≤ 3
  b3 : b ≤ 3
  hl : l < c.ls.length
  hB : InP c.p B
  bl : B.length = 2 ^ b * 2 ^ wN c (l + 1)
  hg : InP c.p g
  gl : g.length = b + wN c l
theorem LayOK.w {c : Cir} {most wide b l : Nat} {B g : List Int} (h : LayOK c most wide b l B g) : wN c (l + 1) ≤ 3 ∧ wN c l ≤ 3 := by
  have hwl := h.ok.wl
  have hl := h.hl
  have w3 := h.w3
  have e1 := wN_eq h.ok (i := l) (by omega)
  have e2 := wN_eq h.ok (i := l + 1) (by omega)
  have z1 := h.ok.w0 _ (gi_mem (show l < c.ws.length by omega))
  have z2 := h.ok.w0 _ (gi_mem (show l + 1 < c.ws.length by omega))
  omega
theorem LayOK.ctx {c : Cir} {most wide b l : Nat} {B g : List Int} (h : LayOK c most wide b l B g) : Ctx c.p (P1of c b g) B b (wN c (l + 1)) (gsof c b l g) := by
  have hl := h.hl
  have gg := h.ok.gg l hl
  have cl1 := colsN_eq (c := c) (i := l + 1)
  unfold colsC at cl1
  refine ⟨?_, h.bl, ?_⟩
  · unfold P1of
    rw [pointT_len, List.length_take, Nat.min_eq_left (by have := h.gl; omega)]
  · refine wgts_ok (n := 2 ^ wN c (l + 1)) h.ok.pm.1 fun q hq => ?_
    have := gg q hq
    rw [← cl1] at this
    exact this
theorem poly_eq {p : Int} {P1 B : List Int} {b w : Nat} {gs : List WG} (C : Ctx p P1 B b w gs) (hp1 : 2 ≤ p) {s : AS} {r : List Int} (hp : s.c.p = p) (hb : s.b = b) (hw : s.wide = w) (h : Inv s gs P1 ((List.range (2 ^ w)).map fun k => colT B b k) r) (hr : r.length < b + 2 * w) :
    polyF s = (List.range (if r.length < b then 4 else 3)).map fun t : Nat => sumF P1 B b w gs (r ++ [(t : Int)]) % p := by
  have er := h.base.round
  unfold polyF
  by_cases e : r.length < b
  · rw [if_pos (by omega), if_pos e]
    refine List.map_congr_left fun t _ => ?_
    have z := row_sum C hp hb hw h e (t : Int)
    have v : 0 ≤ rowV s t ∧ rowV s t < p := by unfold rowV; rw [hp]; exact mod_in hp1
    unfold Cg at z
    rw [← z, Int.emod_eq_of_lt v.1 v.2]
  · rw [if_neg (by omega), if_neg e]
    refine List.map_congr_left fun t _ => ?_
    have z : Cg p (colV s t) (sumF P1 B b w gs (r ++ [(t : Int)])) := by
      by_cases e2 : r.length < b + w
      · exact col_sum1 C hp hb hw h (by omega) e2 t
      · exact col_sum2 C hp hb hw h (by omega) hr t
    have v : 0 ≤ colV s t ∧ colV s t < p := by unfold colV; rw [hp]; exact mod_in hp1
    unfold Cg at z
    rw [← z, Int.emod_eq_of_lt v.1 v.2]
theorem line_eq {p : Int} {P1 B : List Int} {b w : Nat} {gs : List WG} (C : Ctx p P1 B b w gs) {s : AS} {r : List Int} (hp : s.c.p = p) (hb : s.b = b) (hw : s.wide = w) (h : Inv s gs P1 ((List.range (2 ^ w)).map fun k => colT B b k) r) (hr : r.length = b + 2 * w) :
    lineF s = (List.range (w + 1)).map fun t : Nat => mle B (r.take b ++ lineV ((r.drop b).take w) (r.drop (b + w)) (t : Nat) p) % p := by
  have hB := h.base
  have ph := h.two (by omega)
  have hbe := ph_below hp hb hB ph.toPhS
  have Rl : (r.take b).length = b := by rw [List.length_take]; omega
  have Xl : ((r.drop b).take w).length = w := by rw [List.length_take, List.length_drop]; omega
  have e1 : s.first = (r.drop b).take w := by rw [hB.first, hb, hw]
  have e2 : s.second = r.drop (b + w) := by rw [hB.second, hb, hw]; exact List.take_of_length_le (by rw [List.length_drop]; omega)
  have bl : s.below.length = 2 ^ w := by rw [hbe, List.length_map, List.length_range]
  unfold lineF
  rw [e1, Xl, e2, hp]
  refine List.map_congr_left fun t _ => ?_
  have ll : (lineV ((r.drop b).take w) (r.drop (b + w)) (t : Nat) p).length = w := by rw [lineV_len, Xl]
  generalize lineV ((r.drop b).take w) (r.drop (b + w)) (t : Nat) p = pt at *
  have z := mle_app (p := p) pt [] s.below (by rw [bl, List.length_nil, Nat.add_zero, ll])
  rw [List.append_nil, mle_nil] at z
  show gi (fl1 p pt s.below) 0 % p = _
  exact z.symm.trans (mleB_cg C.bl Rl ll hbe).symm
/-! ### the sums are polynomials -/
def Aff (f : Int → Int) : Prop := ∃ a b : Int, ∀ t, f t = a + b * t
theorem Aff.const (c : Int) : Aff fun _ => c := ⟨c, 0, fun t => by show c = c + 0 * t; omega⟩
theorem Aff.add {f g : Int → Int} : Aff f → Aff g → Aff fun t => f t + g t := fun ⟨a, b, h⟩ ⟨c, d, k⟩ => ⟨a + c, b + d, fun t => by show f t + g t = _; rw [h, k]; grind⟩
theorem Aff.smul {f : Int → Int} (c : Int) : Aff f → Aff fun t => c * f t := fun ⟨a, b, h⟩ => ⟨c * a, c * b, fun t => by show c * f t = _; rw [h]; grind⟩
theorem Aff.S {F : Nat → Int → Int} : ∀ n : Nat, (∀ i < n, Aff (F i)) → Aff fun t => Dl.S n fun i => F i t
  | 0, _ => .const 0
  | n + 1, h => (Aff.S n fun i hi => h i (by omega)).add (h n (by omega))
theorem Aff.pol {p : Int} {n : Nat} {f g : Int → Int} (hg : Pol p n g) : Aff f → Pol p (n + 1) fun t => f t * g t := fun ⟨a, b, h⟩ => (hg.lin a b).congr fun t => .of_eq (by rw [h])
theorem Aff.pol1 {p : Int} {f : Int → Int} (h : Aff f) : Pol p 1 f := (h.pol (Pol.const (p := p) (n := 0) 1)).congr fun t => .of_eq (by rw [Int.mul_one])
theorem wt_aff (s : List Int) : ∀ (r : List Int) (z : Nat), Aff fun t => wt (r ++ t :: s) z
  | [], z => by
    by_cases h : z % 2 = 1
    · refine ⟨0, wt s (z / 2), fun t => ?_⟩
      show (if z % 2 = 1 then t else 1 - t) * wt s (z / 2) = _
      rw [if_pos h]; grind
    · refine ⟨wt s (z / 2), -wt s (z / 2), fun t => ?_⟩
      show (if z % 2 = 1 then t else 1 - t) * wt s (z / 2) = _
      rw [if_neg h]; grind
  | x :: r, z => (wt_aff s r (z / 2)).smul (if z % 2 = 1 then x else 1 - x)
theorem mle_aff (T r s : List Int) : Aff fun t => mle T (r ++ t :: s) := by
  unfold mle
  simp only [List.length_append, List.length_cons]
  refine Aff.S _ fun z _ => ?_
  obtain ⟨a, b, h⟩ := (wt_aff s r z).smul (gi T (z : Nat))
  exact ⟨a, b, fun t => by rw [← h]; exact Int.mul_comm _ _⟩
theorem gF_pol1 {p : Int} (q : WG) {u : Int → Int} (hu : Aff u) (v : Int) : Pol p 1 fun t => gF q (u t) v := by
  refine ((((hu.smul (q.a + q.c * v)).add (.const (q.b * v))).pol1)).congr fun t => .of_eq ?_
  unfold gF; grind
theorem gF_pol1' {p : Int} (q : WG) (u : Int) {v : Int → Int} (hv : Aff v) : Pol p 1 fun t => gF q u (v t) := by
  refine ((((hv.smul (q.b + q.c * u)).add (.const (q.a * u))).pol1)).congr fun t => .of_eq ?_
  unfold gF; grind
theorem gF_pol2 {p : Int} (q : WG) {u v : Int → Int} (hu : Aff u) (hv : Aff v) : Pol p 2 fun t => gF q (u t) (v t) := by
  have h1 : Pol p 2 fun t => q.a * u t := ((hu.smul q.a).pol1).mono (by decide)
  have h2 : Pol p 2 fun t => v t * (q.b + q.c * u t) := hv.pol (((hu.smul q.c).add (.const q.b)).pol1.congr fun t => .of_eq (Int.add_comm _ _))
  refine (h1.add h2).congr fun t => .of_eq ?_
  unfold gF; grind
theorem wg_polR {p : Int} {gs : List WG} {X Y : List Int} {u v : Int → Int} (hu : Aff u) (hv : Aff v) : Pol p 2 fun t => WGsum gs X Y (u t) (v t) :=
  lsum_pol gs fun q _ => (gF_pol2 q hu hv).smul _
theorem wg_polX {p : Int} {gs : List WG} {x0 x1 Y : List Int} {u : Int → Int} {v : Int} (hu : Aff u) : Pol p 2 fun t => WGsum gs (x0 ++ t :: x1) Y (u t) v :=
  lsum_pol gs fun q _ => ((wt_aff x1 x0 q.x.toNat).pol ((gF_pol1 q hu v).smul (wt Y q.y.toNat))).congr fun t => .of_eq (Int.mul_assoc _ _ _)
theorem wg_polY {p : Int} {gs : List WG} {X y0 y1 : List Int} {u : Int} {v : Int → Int} (hv : Aff v) : Pol p 2 fun t => WGsum gs X (y0 ++ t :: y1) u (v t) :=
  lsum_pol gs fun q _ => ((wt_aff y1 y0 q.y.toNat).pol ((gF_pol1' q u hv).smul (wt X q.x.toNat))).congr fun t => .of_eq (by grind)
theorem Fsp_pol {p : Int} {P1 B : List Int} {b w : Nat} {gs : List WG} {r c : List Int} (h : r.length + 1 + c.length = b + 2 * w) : Pol p (if r.length < b then 3 else 2) fun t => Fsp P1 B b w gs (r ++ t :: c) := by
  by_cases e : r.length < b
  · rw [if_pos e]
    obtain ⟨c1, X, Y, rfl, h1, h2⟩ : ∃ c1 X Y, c = c1 ++ (X ++ Y) ∧ c1.length = b - r.length - 1 ∧ X.length = w := ⟨c.take (b - r.length - 1), (c.drop (b - r.length - 1)).take w, (c.drop (b - r.length - 1)).drop w, by rw [List.take_append_drop, List.take_append_drop], by rw [List.length_take]; omega, by rw [List.length_take, List.length_drop]; omega⟩
    have e1 : ∀ t, Fsp P1 B b w gs (r ++ t :: (c1 ++ (X ++ Y))) = mle P1 (r ++ t :: c1) * WGsum gs X Y (mle B (r ++ t :: (c1 ++ X))) (mle B (r ++ t :: (c1 ++ Y))) := fun t => by
      rw [show r ++ t :: (c1 ++ (X ++ Y)) = (r ++ t :: c1) ++ (X ++ Y) by simp, Fsp_parts (by rw [List.length_append, List.length_cons]; omega) h2]
      simp only [List.append_assoc, List.cons_append]
    exact ((mle_aff P1 r c1).pol (wg_polR (mle_aff B r (c1 ++ X)) (mle_aff B r (c1 ++ Y)))).congr fun t => .of_eq (e1 t)
  · rw [if_neg e]
    obtain ⟨R, z, rfl, hR⟩ : ∃ R z, r = R ++ z ∧ R.length = b := ⟨r.take b, r.drop b, (List.take_append_drop b r).symm, by rw [List.length_take]; omega⟩
    rw [List.length_append] at h
    by_cases e2 : z.length < w
    · obtain ⟨x1, Y, rfl, h1⟩ : ∃ x1 Y, c = x1 ++ Y ∧ x1.length = w - z.length - 1 := ⟨c.take (w - z.length - 1), c.drop (w - z.length - 1), (List.take_append_drop _ c).symm, by rw [List.length_take]; omega⟩
      have e1 : ∀ t, Fsp P1 B b w gs (R ++ z ++ t :: (x1 ++ Y)) = mle P1 R * WGsum gs (z ++ t :: x1) Y (mle B ((R ++ z) ++ t :: x1)) (mle B (R ++ Y)) := fun t => by
        rw [show R ++ z ++ t :: (x1 ++ Y) = R ++ ((z ++ t :: x1) ++ Y) by simp, Fsp_parts hR (by rw [List.length_append, List.length_cons]; omega)]
        simp only [List.append_assoc]
      exact ((wg_polX (mle_aff B (R ++ z) x1)).smul (mle P1 R)).congr fun t => .of_eq (e1 t)
    · obtain ⟨X, y, rfl, hX⟩ : ∃ X y, z = X ++ y ∧ X.length = w := ⟨z.take w, z.drop w, (List.take_append_drop w z).symm, by rw [List.length_take]; omega⟩
      have e1 : ∀ t, Fsp P1 B b w gs (R ++ (X ++ y) ++ t :: c) = mle P1 R * WGsum gs X (y ++ t :: c) (mle B (R ++ X)) (mle B ((R ++ y) ++ t :: c)) := fun t => by
        rw [show R ++ (X ++ y) ++ t :: c = R ++ (X ++ (y ++ t :: c)) by simp, Fsp_parts hR hX]
        simp only [List.append_assoc]
      exact ((wg_polY (mle_aff B (R ++ y) c)).smul (mle P1 R)).congr fun t => .of_eq (e1 t)
theorem sumF_pol {p : Int} {P1 B : List Int} {b w : Nat} {gs : List WG} {r : List Int} (h : r.length < b + 2 * w) : Pol p (if r.length < b then 3 else 2) fun t => sumF P1 B b w gs (r ++ [t]) := by
  unfold sumF
  simp only [List.length_append, List.length_cons, List.length_nil]
  refine Pol.sum _ fun k _ => ?_
  refine (Fsp_pol (P1 := P1) (B := B) (b := b) (w := w) (gs := gs) (r := r) (c := corn k (b + 2 * w - (r.length + (0 + 1)))) (by rw [corn_len]; omega)).congr fun t => .of_eq (by simp only [List.append_assoc, List.cons_append, List.nil_append])
theorem sumF_split {P1 B : List Int} {b w : Nat} {gs : List WG} {r : List Int} (h : r.length < b + 2 * w) : sumF P1 B b w gs r = sumF P1 B b w gs (r ++ [0]) + sumF P1 B b w gs (r ++ [1]) := by
  obtain ⟨m, hm⟩ : ∃ m, b + 2 * w - r.length = m + 1 := ⟨b + 2 * w - r.length - 1, by omega⟩
  have l : ∀ x : Int, (r ++ [x]).length = r.length + 1 := fun x => by rw [List.length_append]; rfl
  unfold sumF
  rw [l, l, show b + 2 * w - (r.length + 1) = m by omega, hm, Nat.pow_succ, Nat.mul_comm, S_pair, ← S_add]
  refine S_congr _ fun k _ => ?_
  rw [corn_succ, corn_succ, show 2 * k % 2 = 0 by omega, show 2 * k / 2 = k by omega, show (2 * k + 1) % 2 = 1 by omega, show (2 * k + 1) / 2 = k by omega]
  simp only [List.append_assoc, List.cons_append, List.nil_append]
  rfl
theorem sumF_full {P1 B : List Int} {b w : Nat} {gs : List WG} {r : List Int} (h : r.length = b + 2 * w) : sumF P1 B b w gs r = Fsp P1 B b w gs r := by
  unfold sumF
  rw [h, Nat.sub_self]
  show 0 + Fsp P1 B b w gs (r ++ corn 0 0) = _
  rw [show corn 0 0 = [] from rfl, List.append_nil, Int.zero_add]
theorem line_mle_pol {p : Int} {B R X Y : List Int} {b : Nat} (hR : R.length = b) : Pol p X.length fun t => mle B (R ++ lineV X Y t p) := by
  have h : Pol p X.length fun t => S (2 ^ X.length) fun z => wt (lineQ ((List.range X.length).map fun k => (gi X (k : Nat), gi Y (k : Nat) - gi X (k : Nat))) t) z * mle (colT B b z) R :=
    Pol.sum _ fun z _ => (((lineQ_pol (p := p) _ z).smul (mle (colT B b z) R)).mono (by simp)).congr fun t => .of_eq (Int.mul_comm _ _)
  refine h.congr fun t => ?_
  rw [mle_two hR, lineV_len]
  refine S_cg _ fun z _ => Cg.mul (wt_cg _ _ z ?_) .refl
  unfold lineV lineQ
  rw [List.map_map]
  exact all2_map (β := Int) _ fun k => Cg.mod.trans (.of_eq (by show _ = gi X (k : Nat) + (gi Y (k : Nat) - gi X (k : Nat)) * t; rw [Int.mul_comm t]))



/-! ### a layer's table is the sum over the layer below -/
/-! ### the answers as the sums say -/
def nextR (p : Int) (b w : Nat) (r : List Int) (t : Int) : List Int := r.take b ++ lineV ((r.drop b).take w) (r.drop (b + w)) t p
theorem lineV_0 {X Y : List Int} {p : Int} (hX : InP p X) : lineV X Y 0 p = X := by
  unfold lineV
  refine List.ext_getElem (by rw [List.length_map, List.length_range]) fun i h1 h2 => ?_
  have b := hX.gN h2
  rw [List.getElem_map, List.getElem_range, Int.zero_mul, Int.add_zero, Int.emod_eq_of_lt b.1 b.2, gi_nat, List.getD_eq_getElem?_getD, List.getElem?_eq_getElem h2]; rfl
theorem lineV_1 {X Y : List Int} {p : Int} (hY : InP p Y) (h : X.length = Y.length) : lineV X Y 1 p = Y := by
  unfold lineV
  refine List.ext_getElem (by rw [List.length_map, List.length_range, h]) fun i h1 h2 => ?_
  have b := hY.gN h2
  rw [List.getElem_map, List.getElem_range, Int.one_mul, show gi X (i : Nat) + (gi Y (i : Nat) - gi X (i : Nat)) = gi Y (i : Nat) by omega, Int.emod_eq_of_lt b.1 b.2, gi_nat, List.getD_eq_getElem?_getD, List.getElem?_eq_getElem h2]; rfl



/-! ### the weights of a layer -/
/-! ### the bluffer -/
structure BS where
  s : AS
  cl : List Int
  ch : List Int
  used : Nat
  claim : Int
  layer : Nat
  point : List Int
  throws : List Int
  sent : List Int
def blKeys : List String := ["honest", "circuit", "bits", "p", "claimed", "choices", "used", "claim", "layer", "point", "throws", "sent"]
class Fl_Bluffer (fl : String → List String) : Prop where
  honest : (fl "honest").contains "Bluffer" = true
  circuit : (fl "circuit").contains "Bluffer" = true
  bits : (fl "bits").contains "Bluffer" = true
  p : (fl "p").contains "Bluffer" = true
  claimed : (fl "claimed").contains "Bluffer" = true
  choices : (fl "choices").contains "Bluffer" = true
  used : (fl "used").contains "Bluffer" = true
  claim : (fl "claim").contains "Bluffer" = true
  layer : (fl "layer").contains "Bluffer" = true
  point : (fl "point").contains "Bluffer" = true
  throws : (fl "throws").contains "Bluffer" = true
  sent : (fl "sent").contains "Bluffer" = true
  abits : (fl "bits").contains "Answerer" = true
  ap : (fl "p").contains "Answerer" = true

set_option hygiene false in
local macro_rules | `(tactic| walk_at "bl") => `(tactic| (walk_at "dx"; (try simp only [dgTupG, dgsCons, dgsNil, dgFld, asT, dVar, List.length_cons, List.length_nil, List.getElem?_cons_zero, ob, obL, obh, hk, moI_ins, Fl_Bluffer.honest, Fl_Bluffer.circuit, Fl_Bluffer.bits, Fl_Bluffer.p, Fl_Bluffer.claimed, Fl_Bluffer.choices, Fl_Bluffer.used, Fl_Bluffer.claim, Fl_Bluffer.layer, Fl_Bluffer.point, Fl_Bluffer.throws, Fl_Bluffer.sent, Fl_Bluffer.abits, Fl_Bluffer.ap,
  List.getElem?_set_self, List.set_set, List.length_set, look_put, String.reduceEq, reduceIte, exists_eq_left', Option.some.injEq, true_and, and_true])))

structure BF (fs : List (String × D)) (h : Nat) (s : BS) : Prop where
  k : KeysOK blKeys fs
  cl : ∀ n, h < n → clF n fs = true
  honest : fs.lookup "honest" = some (.hnd h)
  circuit : fs.lookup "circuit" = some (cD s.s.c)
  bits : fs.lookup "bits" = some (.int (s.s.b : Nat))
  p : fs.lookup "p" = some (.int s.s.c.p)
  claimed : fs.lookup "claimed" = some (.lst (s.cl.map D.int))
  choices : fs.lookup "choices" = some (.lst (s.ch.map D.int))
  used : fs.lookup "used" = some (.int (s.used : Nat))
  claim : fs.lookup "claim" = some (.int s.claim)
def chF (ch : List Int) (p : Int) (u : Nat) : Int := if u < ch.length then gi ch (u : Nat) % p else 0
theorem BF.same {fs : List (String × D)} {h : Nat} {s s' : BS} (b : BF fs h s) (e1 : s'.s.c = s.s.c) (e2 : s'.s.b = s.s.b) (e : (s'.cl, s'.ch, s'.used, s'.claim) = (s.cl, s.ch, s.used, s.claim)) : BF fs h s' := by
  simp only [Prod.mk.injEq] at e
  obtain ⟨e3, e4, e5, e6⟩ := e
  exact ⟨b.k, b.cl, b.honest, by rw [e1]; exact b.circuit, by rw [e2]; exact b.bits, by rw [e1]; exact b.p, by rw [e3]; exact b.claimed, by rw [e4]; exact b.choices, by rw [e5]; exact b.used, by rw [e6]; exact b.claim⟩
def bThrow (s : BS) (z : Int) : BS := { s with s := throwF s.s z, claim := valV s.sent z s.s.c.p, throws := s.throws ++ [z] }
/-! ### the bluffer's polynomials -/
def blV (vs ch : List Int) (p : Int) (u : Nat) : List Int := (List.range vs.length).map fun i : Nat => (gi vs (i : Nat) + chF ch p (u + i)) % p
def bSent (s : BS) (vs : List Int) : List Int := (blV vs s.ch s.s.c.p s.used).set 1 ((s.claim - gi (blV vs s.ch s.s.c.p s.used) 0) % s.s.c.p)
def bPoly (s : BS) : BS := { s with s := polyS s.s, used := s.used + (polyF s.s).length, sent := bSent s (polyF s.s) }
def facV (s : BS) (w : Nat) (f : List Int → List Int → Gate → Int) : Int := nPl (s.point.take s.s.b) (s.throws.take s.s.b) * wS (s.s.c.ls.getD s.layer []) (s.point.drop s.s.b) (f ((s.throws.drop s.s.b).take w) (s.throws.drop (s.s.b + w))) (s.s.c.ls.getD s.layer []).length
/-! ### the bluffer's line -/
def bLine (a b c cl p fst : Int) : Nat → Nat → List Int → List Int
  | 0, _, T => T
  | n + 1, i, T => if T.length = 1 then if (a * ((fst + (i : Nat)) % p) + b * ((fst + (i : Nat)) % p) + c * ((fst + (i : Nat)) % p) * ((fst + (i : Nat)) % p) - cl) % p = 0 then T.set 0 ((fst + (i : Nat)) % p) else bLine a b c cl p fst n (i + 1) (T.set 0 ((fst + (i : Nat)) % p))
    else if (b + c * ((fst + (i : Nat)) % p)) % p ≠ 0 then (T.set 0 ((fst + (i : Nat)) % p)).set 1 ((cl - a * ((fst + (i : Nat)) % p)) * (((b + c * ((fst + (i : Nat)) % p)) % p) ^ (p - 2).toNat % p) % p)
    else if (a * ((fst + (i : Nat)) % p) - cl) % p = 0 then T.set 0 ((fst + (i : Nat)) % p) else bLine a b c cl p fst n (i + 1) (T.set 0 ((fst + (i : Nat)) % p))
def bLineR (s : BS) (w : Nat) : List Int := bLine (facV s w gA % s.s.c.p) (facV s w gB % s.s.c.p) (facV s w gC % s.s.c.p) s.claim s.s.c.p (gi (blV (lineF s.s) s.ch s.s.c.p s.used) 0) (min 50 s.s.c.p).toNat 0 (blV (lineF s.s) s.ch s.s.c.p s.used)
/-! ### the laws' own value of a polynomial; values at a point -/
theorem valAt_mle {T pt : List Int} {p : Int} (h : T.length = 2 ^ pt.length) : valAt T pt p = mle T pt % p := by
  have z := mle_app (p := p) pt [] T (by rw [h, List.length_nil, Nat.add_zero])
  rw [List.append_nil, mle_nil] at z
  exact z.symm



/-! ### differences: a polynomial of n values goes on by sums alone -/
theorem gi_mapr {F : Nat → Int} {n j : Nat} (h : j < n) : gi ((List.range n).map F) (j : Nat) = F j := by
  rw [gi_nat, List.getD_eq_getElem?_getD, List.getElem?_map, List.getElem?_range h]; rfl
/-! ### the laws with larger numbers: draws -/
/-! ### all values of a polynomial -/
/-! ### objects of the class Bluffer or of a class under it -/
def blC (cn : String) : Prop := cn = "Bluffer" ∨ cn = "Guesser"
class Fl_B1 (fl : String → List String) (cn : String) : Prop where
  honest : (fl "honest").contains cn = true
  circuit : (fl "circuit").contains cn = true
  bits : (fl "bits").contains cn = true
  p : (fl "p").contains cn = true
  claimed : (fl "claimed").contains cn = true
  choices : (fl "choices").contains cn = true
  used : (fl "used").contains cn = true
  claim : (fl "claim").contains cn = true
  layer : (fl "layer").contains cn = true
  point : (fl "point").contains cn = true
  throws : (fl "throws").contains cn = true
  sent : (fl "sent").contains cn = true
  abits : (fl "bits").contains "Answerer" = true
  ap : (fl "p").contains "Answerer" = true
class Fl_BG (fl : String → List String) : Prop where
  honest1 : (fl "honest").contains "Bluffer" = true
  honest2 : (fl "honest").contains "Guesser" = true
  circuit1 : (fl "circuit").contains "Bluffer" = true
  circuit2 : (fl "circuit").contains "Guesser" = true
  bits1 : (fl "bits").contains "Bluffer" = true
  bits2 : (fl "bits").contains "Guesser" = true
  p1 : (fl "p").contains "Bluffer" = true
  p2 : (fl "p").contains "Guesser" = true
  claimed1 : (fl "claimed").contains "Bluffer" = true
  claimed2 : (fl "claimed").contains "Guesser" = true
  choices1 : (fl "choices").contains "Bluffer" = true
  choices2 : (fl "choices").contains "Guesser" = true
  used1 : (fl "used").contains "Bluffer" = true
  used2 : (fl "used").contains "Guesser" = true
  claim1 : (fl "claim").contains "Bluffer" = true
  claim2 : (fl "claim").contains "Guesser" = true
  layer1 : (fl "layer").contains "Bluffer" = true
  layer2 : (fl "layer").contains "Guesser" = true
  point1 : (fl "point").contains "Bluffer" = true
  point2 : (fl "point").contains "Guesser" = true
  throws1 : (fl "throws").contains "Bluffer" = true
  throws2 : (fl "throws").contains "Guesser" = true
  sent1 : (fl "sent").contains "Bluffer" = true
  sent2 : (fl "sent").contains "Guesser" = true
  abits : (fl "bits").contains "Answerer" = true
  ap : (fl "p").contains "Answerer" = true
theorem Fl_BG.of {fl : String → List String} {cn : String} (F : Fl_BG fl) (h : blC cn) : Fl_B1 fl cn := by
  rcases h with rfl | rfl
  · exact ⟨F.honest1, F.circuit1, F.bits1, F.p1, F.claimed1, F.choices1, F.used1, F.claim1, F.layer1, F.point1, F.throws1, F.sent1, F.abits, F.ap⟩
  · exact ⟨F.honest2, F.circuit2, F.bits2, F.p2, F.claimed2, F.choices2, F.used2, F.claim2, F.layer2, F.point2, F.throws2, F.sent2, F.abits, F.ap⟩

set_option hygiene false in
local macro_rules | `(tactic| walk_at "bl") => `(tactic| (walk_at "dx"; (try simp only [dgTupG, dgsCons, dgsNil, dgFld, asT, dVar, List.length_cons, List.length_nil, List.getElem?_cons_zero, ob, obL, obh, hk, moI_ins, Fl_B1.honest, Fl_B1.circuit, Fl_B1.bits, Fl_B1.p, Fl_B1.claimed, Fl_B1.choices, Fl_B1.used, Fl_B1.claim, Fl_B1.layer, Fl_B1.point, Fl_B1.throws, Fl_B1.sent, Fl_B1.abits, Fl_B1.ap,
  List.getElem?_set_self, List.set_set, List.length_set, look_put, String.reduceEq, reduceIte, exists_eq_left', Option.some.injEq, true_and, and_true])))

/-! ### hopeful polynomials; the guesser -/
def prV (gs : List Int) (p x : Int) : Int := gs.foldl (fun r g => r * (x - g) % p) 1
def whole (gs : List Int) (p : Int) : Int := (prV gs p 0 + prV gs p 1) % p
/-! ### the guesser's polynomials -/
/-! ### several claims about one table, joined -/
def oiD : Option Int → D
  | none => .non
  | some x => .int x
def ohD : Option Nat → D
  | none => .non
  | some k => .hnd k
def onP : Option (List Int × Int) → D
  | none => .non
  | some x => .lst (x.1.map D.int)
def onC : Option (List Int × Int) → D
  | none => .non
  | some x => .int x.2
def joinF (p : Int) (pts : List (List Int)) (cl : List Int) (mix : Option Int) (ks : Option Nat) (nx : Option (List Int × Int)) : List (String × D) :=
  [("p", .int p), ("points", .lst (pts.map intL)), ("claims", .lst (cl.map D.int)), ("mix", oiD mix), ("sums", ohD ks), ("next_point", onP nx), ("next_claim", onC nx)]
def onL : Option (List Int) → D
  | none => .non
  | some x => .lst (x.map D.int)
def jaF (p : Int) (tab : List Int) (pts : List (List Int)) (near : Option (List Int)) : List (String × D) :=
  [("p", .int p), ("table", .lst (tab.map D.int)), ("points", .lst (pts.map intL)), ("near", onL near)]
section
variable {p : Int} {pts : List (List Int)} {cl degs tab : List Int} {mix : Option Int} {ks : Option Nat} {nx : Option (List Int × Int)} {scl : Int} {j : Nat} {sent : Option (List Int)} {near : Option (List Int)}
theorem lkJ_p : List.lookup "p" (joinF p pts cl mix ks nx) = some (.int p) := rfl
theorem lkJ_points : List.lookup "points" (joinF p pts cl mix ks nx) = some (.lst (pts.map intL)) := rfl
theorem lkJ_claims : List.lookup "claims" (joinF p pts cl mix ks nx) = some (.lst (cl.map D.int)) := rfl
theorem lkJ_mix : List.lookup "mix" (joinF p pts cl mix ks nx) = some (oiD mix) := rfl
theorem lkJ_sums : List.lookup "sums" (joinF p pts cl mix ks nx) = some (ohD ks) := rfl
theorem lkJ_np : List.lookup "next_point" (joinF p pts cl mix ks nx) = some (onP nx) := rfl
theorem lkJ_nc : List.lookup "next_claim" (joinF p pts cl mix ks nx) = some (onC nx) := rfl
theorem lkS_sent : List.lookup "sent" (askF p scl degs j sent) = some (sentD sent) := rfl
theorem lkS_throws : List.lookup "throws" (askF p scl degs j sent) = some (.hnd j) := rfl
theorem lkS_claim : List.lookup "claim" (askF p scl degs j sent) = some (.int scl) := rfl
theorem lkA_p : List.lookup "p" (jaF p tab pts near) = some (.int p) := rfl
theorem lkA_table : List.lookup "table" (jaF p tab pts near) = some (.lst (tab.map D.int)) := rfl
theorem lkA_points : List.lookup "points" (jaF p tab pts near) = some (.lst (pts.map intL)) := rfl
theorem lkA_near : List.lookup "near" (jaF p tab pts near) = some (onL near) := rfl
end
class Fl_Join (fl : String → List String) : Prop where
  p : (fl "p").contains "Join" = true
  points : (fl "points").contains "Join" = true
  claims : (fl "claims").contains "Join" = true
  mix : (fl "mix").contains "Join" = true
  sums : (fl "sums").contains "Join" = true
  np : (fl "next_point").contains "Join" = true
  nc : (fl "next_claim").contains "Join" = true
  sent : (fl "sent").contains "SumAsker" = true
  throws : (fl "throws").contains "SumAsker" = true
  claim : (fl "claim").contains "SumAsker" = true
class Fl_JoinAnswerer (fl : String → List String) : Prop where
  p : (fl "p").contains "JoinAnswerer" = true
  table : (fl "table").contains "JoinAnswerer" = true
  points : (fl "points").contains "JoinAnswerer" = true
  near : (fl "near").contains "JoinAnswerer" = true


set_option hygiene false in
local macro_rules | `(tactic| walk_at "jn") => `(tactic| (walk_at "dx"; (try simp only [ob, obs, oiD, ohD, onP, onC, onL, sentD, moI_ins, lkJ_p, lkJ_points, lkJ_claims, lkJ_mix, lkJ_sums, lkJ_np, lkJ_nc, lkS_sent, lkS_throws, lkS_claim, lkA_p, lkA_table, lkA_points, lkA_near, Fl_Join.p, Fl_Join.points, Fl_Join.claims, Fl_Join.mix, Fl_Join.sums, Fl_Join.np, Fl_Join.nc, Fl_Join.sent, Fl_Join.throws, Fl_Join.claim, Fl_JoinAnswerer.p, Fl_JoinAnswerer.table, Fl_JoinAnswerer.points, Fl_JoinAnswerer.near, exists_eq_left', Option.some.injEq, true_and, and_true])))
set_option hygiene false in
local macro_rules | `(tactic| walk_at "jg") => `(tactic| (walk_at "dx"; (try simp only [ob, g1, g2, moI_ins, lkJ_p, lkJ_points, lkJ_claims, lkJ_mix, lkJ_sums, lkJ_np, lkJ_nc, lkS_sent, lkS_throws, lkS_claim, lkA_p, lkA_table, lkA_points, lkA_near, Fl_Join.p, Fl_Join.points, Fl_Join.claims, Fl_Join.mix, Fl_Join.sums, Fl_Join.np, Fl_Join.nc, Fl_Join.sent, Fl_Join.throws, Fl_Join.claim, Fl_JoinAnswerer.p, Fl_JoinAnswerer.table, Fl_JoinAnswerer.points, Fl_JoinAnswerer.near, exists_eq_left', Option.some.injEq, true_and, and_true])))

/-! ### the join's asker -/
/-- a join whose claims are mixed -/
structure JnB (m : MM) (k ks j : Nat) (p : Int) (pts : List (List Int)) (cl : List Int) (mix scl : Int) (ths : List Int) (sent : Option (List Int)) (nx : Option (List Int × Int)) (n : Nat) : Prop where
  ob : m.M[k]? = some (.ins "Join" (joinF p pts cl (some mix) (some ks) nx))
  a : Ask m ks j p scl (List.replicate n 2) ths sent
  hm : 0 ≤ mix ∧ mix < p
  pin : ∀ x ∈ pts, InP p x ∧ x.length = n
  pl : pts.length ≤ 1000
  tin : InP p ths
def sD (s : String) : D := .str (PySem.Str.ofString s)
theorem gi_rep {n i : Nat} (h : i < n) : gi (List.replicate n (2 : Int)) (i : Nat) = 2 := by
  rw [gi_nat, List.getD_eq_getElem?_getD, List.getElem?_replicate, if_pos h]; rfl
/-! ### the join's honest answerer -/
def joinP (nr tab : List Int) (p : Int) : List Int := (List.range 3).map fun t : Nat => (((List.range (foldS p nr (t : Nat)).length).map fun k : Nat => gi (foldS p nr (t : Nat)) (k : Nat) * gi (foldS p tab (t : Nat)) (k : Nat)).sum) % p
structure JaOK (m : MM) (k : Nat) (p : Int) (tab : List Int) (pts : List (List Int)) (near : Option (List Int)) : Prop where
  ob : m.M[k]? = some (.ins "JoinAnswerer" (jaF p tab pts near))
  pm : PM p
  tin : InP p tab
  tl : tab.length ≤ 65536
  nin : ∀ nr, near = some nr → InP p nr ∧ nr.length = tab.length
/-! ### the laws' own mix -/
theorem ne_obj {M : List MO} {i k : Nat} {a b : MO} (h1 : M[i]? = some a) (h2 : M[k]? = some b) (h : a ≠ b) : i ≠ k := fun e => by
  subst e
  rw [h1] at h2
  exact h (Option.some.inj h2)
theorem ins_ne {c d : String} {f g : List (String × D)} (h : c ≠ d) : MO.ins c f ≠ MO.ins d g := fun e => by
  injection e with e1
  exact h e1
theorem lst_ne {c : String} {f : List (String × D)} {l : List D} : MO.ins c f ≠ MO.lst l := fun e => by cases e
theorem JnB.sets {M : List MO} {s : Nat} {k ks j n : Nat} {p mix scl : Int} {pts : List (List Int)} {cl ths : List Int} {S : List Int} {nx : Option (List Int × Int)} (b : JnB ⟨M, s⟩ k ks j p pts cl mix scl ths none nx n) (hS : InP p S) (h0 : 0 < S.length) (h1 : S.length ≤ 1000) (h2 : (S.length : Int) ≤ p) :
    JnB ⟨M.set ks (.ins "SumAsker" (askF p scl (List.replicate n 2) j (some S))), s⟩ k ks j p pts cl mix scl ths (some S) nx n := by
  have n1 : ks ≠ k := ne_obj b.a.ob b.ob (ins_ne (by decide))
  have n2 : ks ≠ j := ne_obj b.a.ob b.a.th lst_ne
  have hk := getLt b.a.ob
  exact ⟨by show (M.set ks _)[k]? = _; rw [List.getElem?_set_ne n1]; exact b.ob, ⟨List.getElem?_set_self hk, by show (M.set ks _)[j]? = _; rw [List.getElem?_set_ne n2]; exact b.a.th, b.a.pm, b.a.pr, b.a.lt, b.a.ld, fun vs e => by injection e with e; subst e; exact ⟨hS, h1, h2, h0⟩⟩, b.hm, b.pin, b.pl, b.tin⟩
theorem JnB.thr {M : List MO} {s : Nat} {k ks j n : Nat} {p mix scl v z : Int} {pts : List (List Int)} {cl ths : List Int} {se : Option (List Int)} {nx : Option (List Int × Int)} (b : JnB ⟨M, s⟩ k ks j p pts cl mix scl ths se nx n) (hl : ths.length < n) (z0 : 0 ≤ z) (z1 : z < p) :
    JnB ⟨(M.set ks (.ins "SumAsker" (askF p v (List.replicate n 2) j none))).set j (.lst ((ths ++ [z]).map D.int)), s⟩ k ks j p pts cl mix v (ths ++ [z]) none nx n := by
  have n1 : ks ≠ k := ne_obj b.a.ob b.ob (ins_ne (by decide))
  have n2 : ks ≠ j := ne_obj b.a.ob b.a.th lst_ne
  have n3 : j ≠ k := fun e => ne_obj b.ob b.a.th lst_ne e.symm
  have hk := getLt b.a.ob
  have hj := getLt b.a.th
  refine ⟨?_, ⟨?_, List.getElem?_set_self (by rw [List.length_set]; exact hj), b.a.pm, b.a.pr, by rw [List.length_replicate, List.length_append]; exact hl, b.a.ld, fun vs e => by cases e⟩, b.hm, b.pin, b.pl, fun x hx => ?_⟩
  · show ((M.set ks _).set j _)[k]? = _
    rw [List.getElem?_set_ne n3, List.getElem?_set_ne n1]; exact b.ob
  · show ((M.set ks _).set j _)[ks]? = _
    rw [List.getElem?_set_ne (Ne.symm n2)]; exact List.getElem?_set_self hk
  · rcases List.mem_append.mp hx with y | y
    · exact b.tin x y
    · rw [List.mem_singleton.mp y]; exact ⟨z0, z1⟩
theorem JaOK.keep {M M' : List MO} {s s' : Nat} {k : Nat} {p : Int} {tab : List Int} {pts : List (List Int)} {near : Option (List Int)} (a : JaOK ⟨M, s⟩ k p tab pts near) (h : M'[k]? = M[k]?) : JaOK ⟨M', s'⟩ k p tab pts near :=
  ⟨by show M'[k]? = _; rw [h]; exact a.ob, a.pm, a.tin, a.tl, a.nin⟩
theorem joinP_in {nr tab : List Int} {p : Int} (hp : 2 ≤ p) : InP p (joinP nr tab p) := fun x hx => by
  obtain ⟨_, _, rfl⟩ := List.mem_map.mp hx
  exact mod_in hp
theorem joinP_len {nr tab : List Int} {p : Int} : (joinP nr tab p).length = 3 := by unfold joinP; rw [List.length_map, List.length_range]

/-! ### plain law of joins -/
def tot2 (nr tab : List Int) (N : Nat) : Int := S N fun k => gi nr (k : Nat) * gi tab (k : Nat)
def tf2 (nr tab : List Int) (M : Nat) (z : Int) : Int := S M fun k => atN nr k z * atN tab k z
theorem tf2_corn {nr tab : List Int} : ∀ M : Nat, tf2 nr tab M 0 + tf2 nr tab M 1 = tot2 nr tab (2 * M)
  | 0 => rfl
  | M + 1 => by
    have ih := tf2_corn (nr := nr) (tab := tab) M
    have e : tot2 nr tab (2 * (M + 1)) = tot2 nr tab (2 * M) + gi nr ((2 * M : Nat) : Int) * gi tab ((2 * M : Nat) : Int) + gi nr ((2 * M + 1 : Nat) : Int) * gi tab ((2 * M + 1 : Nat) : Int) := rfl
    rw [e, ← ih]
    show S M (fun k => atN nr k 0 * atN tab k 0) + atN nr M 0 * atN tab M 0 + (S M (fun k => atN nr k 1 * atN tab k 1) + atN nr M 1 * atN tab M 1) = _
    have a0 : ∀ t : List Int, atN t M 0 = gi t ((2 * M : Nat) : Int) := fun t => by
      unfold atN
      rw [Int.zero_mul, Int.add_zero]
      rfl
    have a1 : ∀ t : List Int, atN t M 1 = gi t ((2 * M + 1 : Nat) : Int) := fun t => by
      unfold atN
      rw [Int.one_mul, show gi t (2 * (M : Nat)) + (gi t (2 * (M : Nat) + 1) - gi t (2 * (M : Nat))) = gi t (2 * (M : Nat) + 1) by omega]
      rfl
    rw [a0, a0, a1, a1]
    show _ = tf2 nr tab M 0 + tf2 nr tab M 1 + _ + _
    unfold tf2
    omega
theorem tf2_fold {p z : Int} {nr tab : List Int} {M : Nat} (h1 : nr.length = 2 * M) (h2 : tab.length = 2 * M) : Cg p (tot2 (foldS p nr z) (foldS p tab z) M) (tf2 nr tab M z) := by
  refine S_cg _ fun k hk => ?_
  rw [foldS_at (by omega), foldS_at (by omega)]
  exact Cg.mul .mod .mod
theorem atN_pol {p : Int} {t : List Int} {k : Nat} : Pol p 1 fun z => atN t k z := by
  have z := (Pol.const (p := p) (n := 0) 1).lin (gi t (2 * (k : Nat))) (gi t (2 * (k : Nat) + 1) - gi t (2 * (k : Nat)))
  refine z.congr fun z => .of_eq ?_
  unfold atN
  rw [Int.mul_one, Int.mul_comm z]
theorem pol_mul1 {p a b : Int} {n : Nat} {f : Int → Int} (h : Pol p n f) : Pol p (n + 1) fun z => (a + z * b) * f z := (h.lin a b).congr fun z => .of_eq (by rw [Int.mul_comm b z])
theorem tf2_pol {p : Int} {nr tab : List Int} {M : Nat} : Pol p 2 (tf2 nr tab M) := by
  refine Pol.sum (F := fun k z => atN nr k z * atN tab k z) M fun k hk => ?_
  have z := pol_mul1 (p := p) (a := gi nr (2 * (k : Nat))) (b := gi nr (2 * (k : Nat) + 1) - gi nr (2 * (k : Nat))) (atN_pol (p := p) (t := tab) (k := k))
  exact z
theorem joinP_at {p : Int} {nr tab : List Int} {M : Nat} (h1 : nr.length = 2 * M) (h2 : tab.length = 2 * M) : joinP nr tab p = (List.range 3).map fun t : Nat => tf2 nr tab M (t : Nat) % p := by
  unfold joinP
  refine List.map_congr_left fun t ht => ?_
  rw [sum_S, foldS_len, h1, show 2 * M / 2 = M by omega]
  exact tf2_fold h1 h2
theorem joinP_corn {p : Int} {nr tab : List Int} {M : Nat} (h1 : nr.length = 2 * M) (h2 : tab.length = 2 * M) : cornV (joinP nr tab p) p = tot2 nr tab (2 * M) % p := by
  rw [joinP_at h1 h2]
  show (tf2 nr tab M 0 % p + tf2 nr tab M 1 % p) % p = _
  rw [← tf2_corn]
  exact Cg.add .mod .mod
theorem joinP_val {p z : Int} (hp : 2 ≤ p) (P : Prim p) (p3 : 3 ≤ p) {nr tab : List Int} {M : Nat} (h1 : nr.length = 2 * M) (h2 : tab.length = 2 * M) (z0 : 0 ≤ z) : valV (joinP nr tab p) z p = tot2 (foldS p nr z) (foldS p tab z) M % p := by
  obtain ⟨cs, c1, c2⟩ := tf2_pol (p := p) (nr := nr) (tab := tab) (M := M)
  have e : joinP nr tab p = vals cs 3 p := by
    rw [joinP_at h1 h2]
    unfold vals
    exact List.map_congr_left fun t _ => c2 _
  rw [e, valV_pev P c1 (by decide) (by omega) z0]
  have a := c2 z
  have b := tf2_fold (p := p) (z := z) h1 h2
  exact (a.symm.trans b.symm)
open PySem L2 PyProof.Rows
/-! ### a list as a test -/
section
variable {X : Cx} {E : WX}
end

/-! ### a bluffer with a true claim and no choices answers honestly -/
theorem valV_polR {p z : Int} (P : Prim p) {n : Nat} {f : Int → Int} (hf : Pol p n f) (hn : ((n + 1 : Nat) : Int) ≤ p) (z0 : 0 ≤ z) : valV ((List.range (n + 1)).map fun t : Nat => f (t : Nat) % p) z p = f z % p := by
  obtain ⟨cs, c1, c2⟩ := hf
  have e : ((List.range (n + 1)).map fun t : Nat => f (t : Nat) % p) = vals cs (n + 1) p := by
    unfold vals
    exact List.map_congr_left fun t _ => c2 _
  rw [e, valV_pev P c1 (by omega) hn z0]
  exact (c2 z).symm
theorem blV_nil {p : Int} {vs : List Int} {u : Nat} (vin : InP p vs) : blV vs [] p u = vs := by
  unfold blV
  refine List.ext_getElem (by rw [List.length_map, List.length_range]) fun i h1 h2 => ?_
  have z := vin.gN (i := i) h2
  have e : chF [] p (u + i) = 0 := if_neg (by show ¬ (u + i < 0); omega)
  rw [List.getElem_map, List.getElem_range, e, Int.add_zero, Int.emod_eq_of_lt z.1 z.2, gi_nat, List.getD_eq_getElem?_getD, List.getElem?_eq_getElem h2]
  rfl
theorem set_gi {T : List Int} {i : Nat} {v : Int} (h : i < T.length) (e : v = gi T (i : Nat)) : T.set i v = T := by
  rw [e, gi_nat, List.getD_eq_getElem?_getD, List.getElem?_eq_getElem h]
  exact List.set_getElem_self h
theorem bSent_hon {p : Int} {t : BS} {vs : List Int} (hp1 : 2 ≤ p) (hp : t.s.c.p = p) (hch : t.ch = []) (vin : InP p vs) (hl : 2 ≤ vs.length) (hcl : t.claim = (gi vs 0 + gi vs 1) % p) : bSent t vs = vs := by
  unfold bSent
  rw [hch, hp, blV_nil vin]
  refine set_gi (by omega) ?_
  have z := vin.gN (i := 1) (by omega)
  have c : Cg p (t.claim - gi vs 0) (gi vs ((1 : Nat) : Int)) := by
    rw [hcl]
    exact (Cg.sub Cg.mod .refl).trans (.of_eq (by show gi vs 0 + gi vs 1 - gi vs 0 = gi vs 1; omega))
  unfold Cg at c
  rw [c, Int.emod_eq_of_lt z.1 z.2]
theorem bLine_hon {a b c cl p : Int} (P : Prim p) (hp1 : 2 ≤ p) {T : List Int} (Tin : InP p T) (h0 : 0 < T.length) (n : Nat)
    (fit : Cg p (a * gi T 0 + b * (if T.length = 1 then gi T 0 else gi T 1) + c * gi T 0 * (if T.length = 1 then gi T 0 else gi T 1)) cl) : bLine a b c cl p (gi T 0) (n + 1) 0 T = T := by
  have u0 := Tin.gi (z := 0) (by decide) (by omega)
  have eu : (gi T 0 + ((0 : Nat) : Int)) % p = gi T 0 := by rw [show gi T 0 + ((0 : Nat) : Int) = gi T 0 by omega, Int.emod_eq_of_lt u0.1 u0.2]
  have s0 : T.set 0 (gi T 0) = T := set_gi h0 rfl
  unfold bLine
  rw [eu, s0]
  generalize hu : gi T 0 = u at *
  by_cases e : T.length = 1
  · rw [if_pos e]
    rw [if_pos e] at fit
    have z : Cg p (a * u + b * u + c * u * u - cl) 0 := (Cg.sub fit .refl).trans (.of_eq (by omega))
    unfold Cg at z
    rw [if_pos (by rw [z, Int.zero_emod])]
  · rw [if_neg e]
    rw [if_neg e] at fit
    have v1 := Tin.gi (z := 1) (by decide) (by omega)
    generalize hv : gi T 1 = v at *
    by_cases e2 : (b + c * u) % p ≠ 0
    · rw [if_pos e2]
      refine set_gi (by omega) ?_
      have nb : ¬ Cg p ((b + c * u) % p) 0 := fun z => e2 (by
        unfold Cg at z
        rw [Int.emod_emod_of_dvd _ (Int.dvd_refl _), Int.zero_emod] at z
        exact z)
      have fi := fermat_inv P nb
      have k1 : Cg p (cl - a * u) (v * (b + c * u)) := (Cg.sub fit.symm .refl).trans (.of_eq (by grind))
      have k2 : Cg p ((cl - a * u) * (((b + c * u) % p) ^ (p - 2).toNat % p)) v := by
        refine (Cg.mul k1 Cg.mod).trans ?_
        have f2 : Cg p ((b + c * u) * ((b + c * u) % p) ^ (p - 2).toNat) 1 := (Cg.mul Cg.mod.symm .refl).trans ((Cg.of_eq (Int.mul_comm _ _)).trans fi)
        refine Cg.trans (b := v * ((b + c * u) * ((b + c * u) % p) ^ (p - 2).toNat)) (.of_eq (Int.mul_assoc _ _ _)) ?_
        exact (Cg.mul .refl f2).trans (.of_eq (Int.mul_one _))
      unfold Cg at k2
      rw [k2, Int.emod_eq_of_lt v1.1 v1.2]
      exact hv.symm
    · rw [if_neg e2]
      have e2 : Cg p (b + c * u) 0 := by
        unfold Cg
        rw [Int.zero_emod]
        exact Classical.byContradiction fun z => e2 z
      have z : Cg p (a * u - cl) 0 := by
        refine (Cg.sub .refl fit.symm).trans (Cg.trans (b := (b + c * u) * (0 - v)) (.of_eq (by grind)) ((Cg.mul e2 .refl).trans (.of_eq (Int.zero_mul _))))
      unfold Cg at z
      rw [if_pos (by rw [z, Int.zero_emod])]
/-- a bluffer that has told the truth so far in its layer -/
structure BH (c : Cir) (b l : Nat) (B g : List Int) (t : BS) (r : List Int) : Prop where
  sc : t.s.c = c
  sb : t.s.b = b
  sw : t.s.wide = wN c (l + 1)
  iv : Inv t.s (gsof c b l g) (P1of c b g) ((List.range (2 ^ wN c (l + 1))).map fun k => colT B b k) r
  ch : t.ch = []
  cl : t.claim = sumF (P1of c b g) B b (wN c (l + 1)) (gsof c b l g) r % c.p
  ly : t.layer = l
  pt : t.point = g
  th : t.throws = r
section
variable {c : Cir} {most wide b l : Nat} {B g r : List Int} {t : BS}
theorem BH.vals (L : LayOK c most wide b l B g) (h : BH c b l B g t r) (hr : r.length < b + 2 * wN c (l + 1)) : ∃ d : Nat, (2 ≤ d ∧ d ≤ 3) ∧ Pol c.p d (fun z => sumF (P1of c b g) B b (wN c (l + 1)) (gsof c b l g) (r ++ [z])) ∧ polyF t.s = (List.range (d + 1)).map fun z : Nat => sumF (P1of c b g) B b (wN c (l + 1)) (gsof c b l g) (r ++ [((z : Nat) : Int)]) % c.p := by
  have pe := poly_eq L.ctx L.ok.pm.1 (by rw [h.sc]) h.sb h.sw h.iv hr
  have pol := sumF_pol (p := c.p) (P1 := P1of c b g) (B := B) (gs := gsof c b l g) hr
  by_cases e : r.length < b
  · rw [if_pos e] at pe pol
    exact ⟨3, ⟨by decide, by decide⟩, pol, pe⟩
  · rw [if_neg e] at pe pol
    exact ⟨2, ⟨by decide, by decide⟩, pol, pe⟩
theorem BH.poly (L : LayOK c most wide b l B g) (h : BH c b l B g t r) (hr : r.length < b + 2 * wN c (l + 1)) : bSent t (polyF t.s) = polyF t.s := by
  obtain ⟨d, d2, pol, pe⟩ := h.vals L hr
  have hp1 := L.ok.pm.1
  have g0 : gi (polyF t.s) 0 = sumF (P1of c b g) B b (wN c (l + 1)) (gsof c b l g) (r ++ [0]) % c.p := by rw [pe]; exact gi_mapr (j := 0) (by omega)
  have g1 : gi (polyF t.s) 1 = sumF (P1of c b g) B b (wN c (l + 1)) (gsof c b l g) (r ++ [1]) % c.p := by rw [pe]; exact gi_mapr (j := 1) (by omega)
  refine bSent_hon hp1 (by rw [h.sc]) h.ch (fun x hx => ?_) (by rw [pe, List.length_map, List.length_range]; omega) ?_
  · rw [pe] at hx
    obtain ⟨_, _, rfl⟩ := List.mem_map.mp hx
    exact mod_in hp1
  · rw [h.cl, g0, g1, sumF_split hr]
    exact (Cg.add Cg.mod Cg.mod).symm
theorem BH.step (L : LayOK c most wide b l B g) (p5 : 5 ≤ c.p) (h : BH c b l B g t r) (hr : r.length < b + 2 * wN c (l + 1)) {z : Int} (z0 : 0 ≤ z) : BH c b l B g (bThrow (bPoly t) z) (r ++ [z]) := by
  have tr := throw_r (polyS t.s) z
  have bp := h.poly L hr
  obtain ⟨d, d2, pol, pe⟩ := h.vals L hr
  refine ⟨tr.2.2.c.trans h.sc, tr.2.2.b.trans h.sb, tr.2.1.trans h.sw, throw_inv (poly_inv h.iv) (by show r.length < t.s.b + 2 * t.s.wide; rw [h.sb, h.sw]; exact hr), h.ch, ?_, h.ly, h.pt, by show t.throws ++ [z] = _; rw [h.th]⟩
  show valV (bSent t (polyF t.s)) z t.s.c.p = _
  rw [bp, h.sc, pe]
  exact valV_polR L.ok.pr pol (by omega) z0
theorem BH.line (L : LayOK c most wide b l B g) (h : BH c b l B g t r) (rin : InP c.p r) (hr : r.length = b + 2 * wN c (l + 1)) : bLineR t (wN c (l + 1)) = lineF t.s := by
  have hp1 := L.ok.pm.1
  have le := line_eq L.ctx (by rw [h.sc]) h.sb h.sw h.iv hr
  obtain ⟨w, hw⟩ : ∃ w, w = wN c (l + 1) := ⟨_, rfl⟩
  have hcl := h.cl
  rw [← hw] at le hr hcl ⊢
  obtain ⟨V, hV⟩ : ∃ V, V = lineF t.s := ⟨_, rfl⟩
  rw [← hV] at le ⊢
  have Vl : V.length = w + 1 := by rw [le, List.length_map, List.length_range]
  have Vin : InP c.p V := fun x hx => by
    rw [le] at hx
    obtain ⟨_, _, rfl⟩ := List.mem_map.mp hx
    exact mod_in hp1
  obtain ⟨n, hn⟩ : ∃ n, (min 50 t.s.c.p).toNat = n + 1 := ⟨(min 50 t.s.c.p).toNat - 1, by rw [h.sc]; omega⟩
  unfold bLineR
  rw [hn, ← hV, h.ch, h.sc, blV_nil Vin]
  have Rl : (r.take b).length = b := by rw [List.length_take]; omega
  have Xl : ((r.drop b).take w).length = w := by rw [List.length_take, List.length_drop]; omega
  have Yl : (r.drop (b + w)).length = w := by rw [List.length_drop]; omega
  have Xin : InP c.p ((r.drop b).take w) := fun x hx => rin x (List.mem_of_mem_drop (List.mem_of_mem_take hx))
  have Yin : InP c.p (r.drop (b + w)) := fun x hx => rin x (List.mem_of_mem_drop hx)
  have u : gi V 0 = mle B (r.take b ++ (r.drop b).take w) % c.p := by
    rw [le]
    have z := gi_mapr (F := fun t : Nat => mle B (r.take b ++ lineV ((r.drop b).take w) (r.drop (b + w)) (t : Nat) c.p) % c.p) (n := w + 1) (j := 0) (by omega)
    rw [show lineV ((r.drop b).take w) (r.drop (b + w)) ((0 : Nat) : Int) c.p = (r.drop b).take w from lineV_0 Xin] at z
    exact z
  have v : (if V.length = 1 then gi V 0 else gi V 1) = mle B (r.take b ++ r.drop (b + w)) % c.p := by
    by_cases e : V.length = 1
    · have w0 : w = 0 := by omega
      rw [if_pos e, u]
      have e1 : (r.drop b).take w = [] := List.length_eq_zero_iff.mp (by rw [Xl, w0])
      have e2 : r.drop (b + w) = [] := List.length_eq_zero_iff.mp (by rw [Yl, w0])
      rw [e1, e2]
    · rw [if_neg e, le]
      have z := gi_mapr (F := fun t : Nat => mle B (r.take b ++ lineV ((r.drop b).take w) (r.drop (b + w)) (t : Nat) c.p) % c.p) (n := w + 1) (j := 1) (by omega)
      rw [show lineV ((r.drop b).take w) (r.drop (b + w)) ((1 : Nat) : Int) c.p = r.drop (b + w) from lineV_1 Yin (by rw [Xl, Yl])] at z
      exact z
  refine bLine_hon L.ok.pr hp1 Vin (by omega) n ?_
  rw [v, u, hcl, sumF_full hr]
  have full : r = r.take b ++ ((r.drop b).take w ++ r.drop (b + w)) := by
    rw [← List.drop_drop, List.take_append_drop, List.take_append_drop]
  have fp := Fsp_parts (P1 := P1of c b g) (B := B) (b := b) (w := w) (gs := gsof c b l g) (R := r.take b) (X := (r.drop b).take w) (Y := r.drop (b + w)) Rl Xl
  rw [← full] at fp
  rw [fp]
  have gl := L.gl
  have hll := L.ok.ll l L.hl
  have lln : (c.ls.getD l []).length = 2 ^ (g.drop b).length := by
    have : (((c.ls.getD l []).length : Nat) : Int) = ((2 ^ wN c l : Nat) : Int) := by
      rw [hll, Int.natCast_pow]; rfl
    rw [List.length_drop, gl, Nat.add_sub_cancel_left]
    omega
  have ws := wg_ws (p := c.p) (l := c.ls.getD l []) (g := g.drop b) (X := (r.drop b).take w) (Y := r.drop (b + w)) (u := mle B (r.take b ++ (r.drop b).take w)) (v := mle B (r.take b ++ r.drop (b + w))) lln
  have np : Cg c.p (mle (P1of c b g) (r.take b)) (nPl (g.take b) (r.take b)) := mle_pointT (by rw [Rl, List.length_take]; omega)
  refine Cg.trans ?_ ((Cg.mul np.symm ws.symm).trans Cg.mod.symm)
  unfold facV
  rw [h.pt, h.th, h.sb, h.sc, h.ly]
  generalize wS (c.ls.getD l []) (g.drop b) (gA ((r.drop b).take w) (r.drop (b + w))) (c.ls.getD l []).length = A
  generalize wS (c.ls.getD l []) (g.drop b) (gB ((r.drop b).take w) (r.drop (b + w))) (c.ls.getD l []).length = B1
  generalize wS (c.ls.getD l []) (g.drop b) (gC ((r.drop b).take w) (r.drop (b + w))) (c.ls.getD l []).length = C1
  generalize nPl (g.take b) (r.take b) = N
  generalize mle B (r.take b ++ (r.drop b).take w) = U
  generalize mle B (r.take b ++ r.drop (b + w)) = V1
  refine (Cg.add (Cg.add (Cg.mul Cg.mod Cg.mod) (Cg.mul Cg.mod Cg.mod)) (Cg.mul (Cg.mul Cg.mod Cg.mod) Cg.mod)).trans (.of_eq ?_)
  grind
theorem BH.last (L : LayOK c most wide b l B g) (p5 : 5 ≤ c.p) (w3 : wN c (l + 1) ≤ 3) (h : BH c b l B g t r) (hr : r.length = b + 2 * wN c (l + 1)) {z : Int} (z0 : 0 ≤ z) : valV (lineF t.s) z c.p = mle B (nextR c.p b (wN c (l + 1)) r z) % c.p := by
  have le := line_eq L.ctx (by rw [h.sc]) h.sb h.sw h.iv hr
  rw [le]
  have Rl : (r.take b).length = b := by rw [List.length_take]; omega
  have Xl : ((r.drop b).take (wN c (l + 1))).length = wN c (l + 1) := by rw [List.length_take, List.length_drop]; omega
  have pol := line_mle_pol (p := c.p) (B := B) (X := (r.drop b).take (wN c (l + 1))) (Y := r.drop (b + wN c (l + 1))) Rl
  rw [Xl] at pol
  exact valV_polR L.ok.pr pol (by omega) z0
end


set_option hygiene false in
local macro_rules | `(tactic| walk_at "bl") => `(tactic| (walk_at "dx"; (try simp only [dgTupG, dgsCons, dgsNil, dgFld, asT, dVar, List.length_cons, List.length_nil, List.getElem?_cons_zero, ob, obL, obh, hk, moI_ins, Fl_Bluffer.honest, Fl_Bluffer.circuit, Fl_Bluffer.bits, Fl_Bluffer.p, Fl_Bluffer.claimed, Fl_Bluffer.choices, Fl_Bluffer.used, Fl_Bluffer.claim, Fl_Bluffer.layer, Fl_Bluffer.point, Fl_Bluffer.throws, Fl_Bluffer.sent, Fl_Bluffer.abits, Fl_Bluffer.ap,
  List.getElem?_set_self, List.set_set, List.length_set, look_put, String.reduceEq, reduceIte, exists_eq_left', Option.some.injEq, true_and, and_true])))

/-! ### the answers of an answerer or of a bluffer that tells the truth -/
class Fl_AB (fl : String → List String) : Prop where
  circuit : (fl "circuit").contains "Answerer" = true
  tables : (fl "tables").contains "Answerer" = true
  bits : (fl "bits").contains "Answerer" = true
  p : (fl "p").contains "Answerer" = true
  steps : (fl "steps").contains "Answerer" = true
  layer : (fl "layer").contains "Answerer" = true
  round : (fl "round").contains "Answerer" = true
  wide : (fl "wide").contains "Answerer" = true
  gates : (fl "gates").contains "Answerer" = true
  near : (fl "near").contains "Answerer" = true
  columns : (fl "columns").contains "Answerer" = true
  first : (fl "first").contains "Answerer" = true
  second : (fl "second").contains "Answerer" = true
  share : (fl "share").contains "Answerer" = true
  below : (fl "below").contains "Answerer" = true
  factors : (fl "factors").contains "Answerer" = true
  rest : (fl "rest").contains "Answerer" = true
  left : (fl "left").contains "Answerer" = true
  bbits : (fl "bits").contains "Bluffer" = true
  bcircuit : (fl "circuit").contains "Bluffer" = true
  bp : (fl "p").contains "Bluffer" = true
theorem Fl_AB.a {fl : String → List String} (F : Fl_AB fl) : Fl_Answerer fl := ⟨F.circuit, F.tables, F.bits, F.p, F.steps, F.layer, F.round, F.wide, F.gates, F.near, F.columns, F.first, F.second, F.share, F.below, F.factors, F.rest, F.left⟩
/-! ### one layer's claim turned into one about the next layer -/
def tuF (c : Cir) (l b : Nat) (g : List Int) (ks : Nat) (line : Option (List Int)) (nx : Option (List Int × Int)) : List (String × D) :=
  [("p", .int c.p), ("gates", lD (c.ls.getD l [])), ("dims", .int (b : Nat)), ("width", .int (wN c (l + 1) : Nat)), ("point", .lst (g.map D.int)), ("sums", .hnd ks), ("line", onL line), ("next_point", onP nx), ("next_claim", onC nx)]
section
variable {c : Cir} {l b ks : Nat} {g : List Int} {line : Option (List Int)} {nx : Option (List Int × Int)}
theorem lkT_p : List.lookup "p" (tuF c l b g ks line nx) = some (.int c.p) := rfl
theorem lkT_gates : List.lookup "gates" (tuF c l b g ks line nx) = some (lD (c.ls.getD l [])) := rfl
theorem lkT_dims : List.lookup "dims" (tuF c l b g ks line nx) = some (.int (b : Nat)) := rfl
theorem lkT_width : List.lookup "width" (tuF c l b g ks line nx) = some (.int (wN c (l + 1) : Nat)) := rfl
theorem lkT_point : List.lookup "point" (tuF c l b g ks line nx) = some (.lst (g.map D.int)) := rfl
theorem lkT_sums : List.lookup "sums" (tuF c l b g ks line nx) = some (.hnd ks) := rfl
theorem lkT_line : List.lookup "line" (tuF c l b g ks line nx) = some (onL line) := rfl
theorem lkT_np : List.lookup "next_point" (tuF c l b g ks line nx) = some (onP nx) := rfl
theorem lkT_nc : List.lookup "next_claim" (tuF c l b g ks line nx) = some (onC nx) := rfl
end
class Fl_Turn (fl : String → List String) : Prop where
  p : (fl "p").contains "Turn" = true
  gates : (fl "gates").contains "Turn" = true
  dims : (fl "dims").contains "Turn" = true
  width : (fl "width").contains "Turn" = true
  point : (fl "point").contains "Turn" = true
  sums : (fl "sums").contains "Turn" = true
  line : (fl "line").contains "Turn" = true
  np : (fl "next_point").contains "Turn" = true
  nc : (fl "next_claim").contains "Turn" = true
  sent : (fl "sent").contains "SumAsker" = true
  throws : (fl "throws").contains "SumAsker" = true
  claim : (fl "claim").contains "SumAsker" = true


set_option hygiene false in
local macro_rules | `(tactic| walk_at "tu") => `(tactic| (walk_at "dx"; (try simp only [ob, obs, onP, onC, onL, sentD, moI_ins, lkT_p, lkT_gates, lkT_dims, lkT_width, lkT_point, lkT_sums, lkT_line, lkT_np, lkT_nc, lkS_sent, lkS_throws, lkS_claim, Fl_Turn.p, Fl_Turn.gates, Fl_Turn.dims, Fl_Turn.width, Fl_Turn.point, Fl_Turn.sums, Fl_Turn.line, Fl_Turn.np, Fl_Turn.nc, Fl_Turn.sent, Fl_Turn.throws, Fl_Turn.claim, exists_eq_left', Option.some.injEq, true_and, and_true])))
set_option hygiene false in
local macro_rules | `(tactic| walk_at "tg") => `(tactic| (walk_at "dx"; (try simp only [ob, g1, g2, onP, onC, onL, sentD, moI_ins, lkT_p, lkT_gates, lkT_dims, lkT_width, lkT_point, lkT_sums, lkT_line, lkT_np, lkT_nc, lkS_sent, lkS_throws, lkS_claim, Fl_Turn.p, Fl_Turn.gates, Fl_Turn.dims, Fl_Turn.width, Fl_Turn.point, Fl_Turn.sums, Fl_Turn.line, Fl_Turn.np, Fl_Turn.nc, Fl_Turn.sent, Fl_Turn.throws, Fl_Turn.claim, exists_eq_left', Option.some.injEq, true_and, and_true])))

def degsT (b w : Nat) : List Int := List.replicate b 3 ++ List.replicate (2 * w) 2
theorem degsT_len {b w : Nat} : (degsT b w).length = b + 2 * w := by unfold degsT; rw [List.length_append, List.length_replicate, List.length_replicate]
/-- a turn -/
structure TuB (m : MM) (k ks j : Nat) (c : Cir) (most wide l b : Nat) (g : List Int) (C : Int) (ths : List Int) (sent line : Option (List Int)) (nx : Option (List Int × Int)) : Prop where
  ob : m.M[k]? = some (.ins "Turn" (tuF c l b g ks line nx))
  a : Ask m ks j c.p C (degsT b (wN c (l + 1))) ths sent
  hc : CirOK c most wide
  w8 : wide ≤ 16
  b8 : b ≤ 100
  hl : l < c.ls.length
  gin : InP c.p g
  gl : g.length = b + wN c l
  tin : InP c.p ths
def wtV (c : Cir) (l b : Nat) (g ths : List Int) (f : List Int → List Int → Gate → Int) : Int := nPl (g.take b) (ths.take b) * wS (c.ls.getD l []) (g.drop b) (f ((ths.drop b).take (wN c (l + 1))) (ths.drop (b + wN c (l + 1)))) (c.ls.getD l []).length
def expV (c : Cir) (l b : Nat) (g ths : List Int) (u v : Int) : Int := (wtV c l b g ths gA * u + wtV c l b g ths gB * v + wtV c l b g ths gC * u * v) % c.p
def lineC (c : Cir) (l b : Nat) (g : List Int) (C : Int) (ths vs : List Int) : Bool := decide (vs.length = wN c (l + 1) + 1) && (vs.all (fun v => decide (0 ≤ v ∧ v < c.p)) && decide (expV c l b g ths (gi vs 0) (gi vs ((min 1 (wN c (l + 1)) : Nat) : Int)) = C))
def nxtG (c : Cir) (l b : Nat) (ths : List Int) (t : Int) : List Int := ths.take b ++ lineV ((ths.drop b).take (wN c (l + 1))) (ths.drop (b + wN c (l + 1))) t c.p
/-! ### a changing list in a field that will not change any more -/
/-! ### x in (y, z), of flat things -/
/-! ### tables of rows, counts of a conversation -/
def inT (R : List (List Int)) (cols : Nat) : List Int := (List.range cols).flatMap fun g => R.map fun r => gi r (g : Nat)
theorem inT_len {R : List (List Int)} {cols : Nat} : (inT R cols).length = cols * R.length := flat_len (fun _ => List.length_map ..) cols
theorem inT_in {R : List (List Int)} {cols : Nat} {p : Int} (hp : 2 ≤ p) (h : ∀ r ∈ R, InP p r) : InP p (inT R cols) := fun x hx => by
  unfold inT at hx
  obtain ⟨g, _, hx⟩ := List.mem_flatMap.mp hx
  obtain ⟨r, hr, rfl⟩ := List.mem_map.mp hx
  unfold gi
  rw [List.getD_eq_getElem?_getD]
  cases e : r[((g : Nat) : Int).toNat]? with
  | none => show 0 ≤ (0 : Int) ∧ (0 : Int) < p; omega
  | some y => exact h r hr y (List.mem_of_getElem? e)
def flatA (A : List (List (List Int) × List Int)) : List (List Int) := A.flatMap fun a => a.1 ++ [a.2]
structure OutOK (c : Cir) (O : List (List Int)) (n : Nat) : Prop where
  len : O.length = n
  row : ∀ r ∈ O, r.length = colsN c 0 ∧ InP c.p r
/-! ### the asker of a whole conversation -/
inductive RS where
  | bel | round (l k : Nat) | lineE (l : Nat) | inpE (l : Nat)
def rsD : RS → D
  | .bel => .tup [sD "believed"]
  | .round l k => .tup [sD "refused", .int (l : Nat), .int (k : Nat)]
  | .lineE l => .tup [sD "refused", .int (l : Nat), sD "end"]
  | .inpE l => .tup [sD "refused", .int (l : Nat), sD "inputs"]
def orD : Option RS → D
  | none => .non
  | some r => rsD r
def akF (c : Cir) (b : Nat) (inp out : List Int) (f : D) (kt : Option Nat) (l k : Nat) (r : Option RS) (w : Int) : List (String × D) :=
  [("circuit", cD c), ("p", .int c.p), ("widths", .lst (c.ws.map D.int)), ("dims", .int (b : Nat)), ("inputs", .lst (inp.map D.int)), ("outputs", .lst (out.map D.int)), ("first", f), ("turn", ohD kt), ("layer", .int (l : Nat)), ("step", .int (k : Nat)), ("result", orD r), ("work", .int w)]
section
variable {c : Cir} {b : Nat} {inp out : List Int} {f : D} {kt : Option Nat} {l k : Nat} {r : Option RS} {w : Int}
theorem lkK_circuit : List.lookup "circuit" (akF c b inp out f kt l k r w) = some (cD c) := rfl
theorem lkK_p : List.lookup "p" (akF c b inp out f kt l k r w) = some (.int c.p) := rfl
theorem lkK_widths : List.lookup "widths" (akF c b inp out f kt l k r w) = some (.lst (c.ws.map D.int)) := rfl
theorem lkK_dims : List.lookup "dims" (akF c b inp out f kt l k r w) = some (.int (b : Nat)) := rfl
theorem lkK_inputs : List.lookup "inputs" (akF c b inp out f kt l k r w) = some (.lst (inp.map D.int)) := rfl
theorem lkK_outputs : List.lookup "outputs" (akF c b inp out f kt l k r w) = some (.lst (out.map D.int)) := rfl
theorem lkK_first : List.lookup "first" (akF c b inp out f kt l k r w) = some (f) := rfl
theorem lkK_turn : List.lookup "turn" (akF c b inp out f kt l k r w) = some (ohD kt) := rfl
theorem lkK_layer : List.lookup "layer" (akF c b inp out f kt l k r w) = some (.int (l : Nat)) := rfl
theorem lkK_step : List.lookup "step" (akF c b inp out f kt l k r w) = some (.int (k : Nat)) := rfl
theorem lkK_result : List.lookup "result" (akF c b inp out f kt l k r w) = some (orD r) := rfl
theorem lkK_work : List.lookup "work" (akF c b inp out f kt l k r w) = some (.int w) := rfl
end
class Fl_Asker (fl : String → List String) : Prop where
  circuit : (fl "circuit").contains "Asker" = true
  p : (fl "p").contains "Asker" = true
  widths : (fl "widths").contains "Asker" = true
  dims : (fl "dims").contains "Asker" = true
  inputs : (fl "inputs").contains "Asker" = true
  outputs : (fl "outputs").contains "Asker" = true
  first : (fl "first").contains "Asker" = true
  turn : (fl "turn").contains "Asker" = true
  layer : (fl "layer").contains "Asker" = true
  step : (fl "step").contains "Asker" = true
  result : (fl "result").contains "Asker" = true
  work : (fl "work").contains "Asker" = true
  sums : (fl "sums").contains "Turn" = true
  line : (fl "line").contains "Turn" = true
  np : (fl "next_point").contains "Turn" = true
  nc : (fl "next_claim").contains "Turn" = true
  sent : (fl "sent").contains "SumAsker" = true


set_option hygiene false in
local macro_rules | `(tactic| walk_at "as") => `(tactic| (walk_at "dx"; (try simp only [ob, obt, obs, ohD, orD, onP, onC, onL, sentD, moI_ins, lkK_circuit, lkK_p, lkK_widths, lkK_dims, lkK_inputs, lkK_outputs, lkK_first, lkK_turn, lkK_layer, lkK_step, lkK_result, lkK_work, lkT_sums, lkT_line, lkT_np, lkT_nc, lkS_sent, Fl_Asker.circuit, Fl_Asker.p, Fl_Asker.widths, Fl_Asker.dims, Fl_Asker.inputs, Fl_Asker.outputs, Fl_Asker.first, Fl_Asker.turn, Fl_Asker.layer, Fl_Asker.step, Fl_Asker.result, Fl_Asker.work, Fl_Asker.sums, Fl_Asker.line, Fl_Asker.np, Fl_Asker.nc, Fl_Asker.sent, Bool.true_eq_false, Bool.false_eq_true, if_true, if_false, exists_eq_left', Option.some.injEq, true_and, and_true])))
set_option hygiene false in
local macro_rules | `(tactic| walk_at "ag") => `(tactic| (walk_at "dx"; (try simp only [ob, g1, g2, ohD, orD, onP, onC, onL, sentD, moI_ins, lkK_circuit, lkK_p, lkK_widths, lkK_dims, lkK_inputs, lkK_outputs, lkK_first, lkK_turn, lkK_layer, lkK_step, lkK_result, lkK_work, lkT_sums, lkT_line, lkT_np, lkT_nc, lkS_sent, Fl_Asker.circuit, Fl_Asker.p, Fl_Asker.widths, Fl_Asker.dims, Fl_Asker.inputs, Fl_Asker.outputs, Fl_Asker.first, Fl_Asker.turn, Fl_Asker.layer, Fl_Asker.step, Fl_Asker.result, Fl_Asker.work, Fl_Asker.sums, Fl_Asker.line, Fl_Asker.np, Fl_Asker.nc, Fl_Asker.sent, Bool.true_eq_false, Bool.false_eq_true, if_true, if_false, exists_eq_left', Option.some.injEq, true_and, and_true])))

structure AskC (c : Cir) (most wide b : Nat) (inp out : List Int) : Prop where
  hc : CirOK c most wide
  m8 : most ≤ 64
  w8 : wide ≤ 8
  b8 : b ≤ 8
  iin : InP c.p inp
  il : inp.length = 2 ^ (b + wN c c.ls.length)
  oin : InP c.p out
  ol : out.length = 2 ^ (b + wN c 0)
  p4 : 4 ≤ c.p
  pw : ∀ i < c.ls.length, ((wN c (i + 1) : Nat) : Int) + 1 ≤ c.p
inductive AJ where
  | fst (ths : List Int) | lay (l : Nat) (g ths : List Int) (C : Int) | sent (l : Nat) (g ths : List Int) (C : Int) (vs : List Int) | line (l : Nat) (g ths : List Int) (C : Int) (vs : List Int) | res (r : RS)
def ASt (n0 : Nat) (m : MM) (k : Nat) (c : Cir) (most wide b : Nat) (inp out : List Int) (w : Int) : AJ → Prop
  | .fst ths => ∃ j, m.M[k]? = some (.ins "Asker" (akF c b inp out (.hnd j) none 0 0 none w)) ∧ m.M[j]? = some (.lst (ths.map D.int)) ∧ n0 ≤ j ∧ InP c.p ths ∧ ths.length < b + wN c 0
  | .lay l g ths C => ∃ kt ks j F, m.M[k]? = some (.ins "Asker" (akF c b inp out (.lst F) (some kt) l ths.length none w)) ∧ TuB m kt ks j c most wide l b g C ths none none none ∧ n0 ≤ kt ∧ n0 ≤ ks ∧ n0 ≤ j
  | .sent l g ths C vs => ∃ kt ks j F, m.M[k]? = some (.ins "Asker" (akF c b inp out (.lst F) (some kt) l ths.length none w)) ∧ TuB m kt ks j c most wide l b g C ths (some vs) none none ∧ n0 ≤ kt ∧ n0 ≤ ks ∧ n0 ≤ j ∧ ths.length < b + 2 * wN c (l + 1)
  | .line l g ths C vs => ∃ kt ks j F, m.M[k]? = some (.ins "Asker" (akF c b inp out (.lst F) (some kt) l ths.length none w)) ∧ TuB m kt ks j c most wide l b g C ths none (some vs) none ∧ n0 ≤ kt ∧ n0 ≤ ks ∧ n0 ≤ j ∧ ths.length = b + 2 * wN c (l + 1) ∧ InP c.p vs ∧ vs.length = wN c (l + 1) + 1
  | .res r => ∃ F kt l s, m.M[k]? = some (.ins "Asker" (akF c b inp out F kt l s (some r) w))
def Ext (n0 : Nat) (m m' : MM) : Prop := m'.s = m.s ∧ ∀ i < n0, m'.M[i]? = m.M[i]?
theorem Ext.refl {n0 : Nat} {m : MM} : Ext n0 m m := ⟨rfl, fun _ _ => rfl⟩
theorem Ext.trans {n0 : Nat} {a b c : MM} (h : Ext n0 a b) (g : Ext n0 b c) : Ext n0 a c := ⟨g.1.trans h.1, fun i hi => (g.2 i hi).trans (h.2 i hi)⟩
theorem Ext.set {n0 : Nat} {a b : MM} (h : Ext n0 a b) {k : Nat} {o : MO} (hk : n0 ≤ k) : Ext n0 a ⟨b.M.set k o, b.s⟩ := ⟨h.1, fun i hi => by
  show (b.M.set k o)[i]? = _
  rw [List.getElem?_set_ne (by omega)]; exact h.2 i hi⟩
def beginJ (c : Cir) (inp : List Int) (l : Nat) (g : List Int) (C : Int) : AJ := if l < c.ls.length then .lay l g [] C else .res (if valAt inp g c.p = C then .bel else .inpE l)
def startJ (c : Cir) (b : Nat) (inp out ths : List Int) : AJ := if ths.length = b + wN c 0 then beginJ c inp 0 ths (valAt out ths c.p) else .fst ths
section
variable {m m' : MM} {k ks j most wide l b : Nat} {c : Cir} {g ths : List Int} {C : Int} {sent line : Option (List Int)} {nx : Option (List Int × Int)}
theorem TuB.keep (T : TuB m k ks j c most wide l b g C ths sent line nx) (h1 : m'.M[k]? = m.M[k]?) (h2 : m'.M[ks]? = m.M[ks]?) (h3 : m'.M[j]? = m.M[j]?) : TuB m' k ks j c most wide l b g C ths sent line nx :=
  ⟨h1.trans T.ob, ⟨h2.trans T.a.ob, h3.trans T.a.th, T.a.pm, T.a.pr, T.a.lt, T.a.ld, T.a.se⟩, T.hc, T.w8, T.b8, T.hl, T.gin, T.gl, T.tin⟩
theorem TuB.ne1 (T : TuB m k ks j c most wide l b g C ths sent line nx) : ks ≠ k := ne_obj T.a.ob T.ob (ins_ne (by decide))
theorem TuB.ne2 (T : TuB m k ks j c most wide l b g C ths sent line nx) : ks ≠ j := ne_obj T.a.ob T.a.th lst_ne
theorem TuB.ne3 (T : TuB m k ks j c most wide l b g C ths sent line nx) : j ≠ k := fun e => ne_obj T.ob T.a.th lst_ne e.symm
theorem TuB.sets {S : List Int} (T : TuB m k ks j c most wide l b g C ths none line nx) (hS : InP c.p S) (h0 : 0 < S.length) (h1 : S.length ≤ 1000) (h2 : (S.length : Int) ≤ c.p) :
    TuB ⟨m.M.set ks (.ins "SumAsker" (askF c.p C (degsT b (wN c (l + 1))) j (some S))), m.s⟩ k ks j c most wide l b g C ths (some S) line nx :=
  ⟨by show (m.M.set ks _)[k]? = _; rw [List.getElem?_set_ne T.ne1]; exact T.ob, ⟨List.getElem?_set_self (getLt T.a.ob), by show (m.M.set ks _)[j]? = _; rw [List.getElem?_set_ne T.ne2]; exact T.a.th, T.a.pm, T.a.pr, T.a.lt, T.a.ld, fun vs e => by injection e with e; subst e; exact ⟨hS, h1, h2, h0⟩⟩, T.hc, T.w8, T.b8, T.hl, T.gin, T.gl, T.tin⟩
theorem TuB.thr {v z : Int} (T : TuB m k ks j c most wide l b g C ths sent line nx) (hl : ths.length < b + 2 * wN c (l + 1)) (z0 : 0 ≤ z) (z1 : z < c.p) :
    TuB ⟨(m.M.set ks (.ins "SumAsker" (askF c.p v (degsT b (wN c (l + 1))) j none))).set j (.lst ((ths ++ [z]).map D.int)), m.s⟩ k ks j c most wide l b g v (ths ++ [z]) none line nx := by
  refine ⟨?_, ⟨?_, List.getElem?_set_self (by rw [List.length_set]; exact getLt T.a.th), T.a.pm, T.a.pr, by rw [degsT_len, List.length_append]; exact hl, T.a.ld, fun vs e => by cases e⟩, T.hc, T.w8, T.b8, T.hl, T.gin, T.gl, fun x hx => ?_⟩
  · show ((m.M.set ks _).set j _)[k]? = _
    rw [List.getElem?_set_ne T.ne3, List.getElem?_set_ne T.ne1]; exact T.ob
  · show ((m.M.set ks _).set j _)[ks]? = _
    rw [List.getElem?_set_ne (Ne.symm T.ne2)]; exact List.getElem?_set_self (getLt T.a.ob)
  · rcases List.mem_append.mp hx with y | y
    · exact T.tin x y
    · rw [List.mem_singleton.mp y]; exact ⟨z0, z1⟩
theorem TuB.put {line' : Option (List Int)} {nx' : Option (List Int × Int)} (T : TuB m k ks j c most wide l b g C ths sent line nx) : TuB ⟨m.M.set k (.ins "Turn" (tuF c l b g ks line' nx')), m.s⟩ k ks j c most wide l b g C ths sent line' nx' :=
  ⟨List.getElem?_set_self (getLt T.ob), ⟨by show (m.M.set k _)[ks]? = _; rw [List.getElem?_set_ne (Ne.symm T.ne1)]; exact T.a.ob, by show (m.M.set k _)[j]? = _; rw [List.getElem?_set_ne (Ne.symm T.ne3)]; exact T.a.th, T.a.pm, T.a.pr, T.a.lt, T.a.ld, T.a.se⟩, T.hc, T.w8, T.b8, T.hl, T.gin, T.gl, T.tin⟩
end
def thrJ (c : Cir) (b : Nat) (inp out : List Int) (z : Int) : AJ → AJ
  | .fst ths => startJ c b inp out (ths ++ [z])
  | .sent l g ths _ vs => .lay l g (ths ++ [z]) (valV vs z c.p)
  | .line l _ ths _ vs => beginJ c inp (l + 1) (nxtG c l b ths z) (valV vs z c.p)
  | st => st
def ansJ (c : Cir) (b : Nat) (vs : List Int) : AJ → AJ
  | .lay l g ths C => if ths.length = b + 2 * wN c (l + 1) then (if lineC c l b g C ths vs = true then .line l g ths C vs else .res (.lineE l)) else (if askC vs c.p C (degsT b (wN c (l + 1))) ths = true then .sent l g ths C vs else .res (.round l ths.length))
  | st => st
structure AskR (c : Cir) (most wide b : Nat) (R : List (List Int)) : Prop where
  hc : CirOK c most wide
  m8 : most ≤ 4
  w8 : wide ≤ 3
  b8 : b ≤ 3
  rl : R.length = 2 ^ b
  rok : ∀ r ∈ R, rowsOK c.p (colsC c c.ls.length) r
  p4 : 4 ≤ c.p
  pw : ∀ i < c.ls.length, ((wN c (i + 1) : Nat) : Int) + 1 ≤ c.p
theorem pow_add_cols {c : Cir} {b i : Nat} : colsN c i * 2 ^ b = 2 ^ (b + wN c i) := by rw [Nat.pow_add, Nat.mul_comm]; rfl
theorem AskR.ask {c : Cir} {most wide b : Nat} {R O : List (List Int)} (K : AskR c most wide b R) (h : OutOK c O (2 ^ b)) : AskC c most wide b (inT R (colsN c c.ls.length)) (inT O (colsN c 0)) where
  hc := K.hc
  m8 := by have := K.m8; omega
  w8 := by have := K.w8; omega
  b8 := by have := K.b8; omega
  iin := inT_in K.hc.pm.1 fun r hr => (K.rok r hr).inp
  il := by rw [inT_len, K.rl, pow_add_cols]
  oin := inT_in K.hc.pm.1 fun r hr => (h.row r hr).2
  ol := by rw [inT_len, h.len, pow_add_cols]
  p4 := K.p4
  pw := K.pw
def resJ : AJ → D
  | .res r => rsD r
  | _ => .non
theorem ASt.obj {n0 k : Nat} {m : MM} {c : Cir} {most wide b : Nat} {inp out : List Int} {w : Int} {st : AJ} (A : ASt n0 m k c most wide b inp out w st) : ∃ f kt l s r w', m.M[k]? = some (.ins "Asker" (akF c b inp out f kt l s r w')) ∧ orD r = resJ st := by
  cases st with
  | fst ths => obtain ⟨j, ob, _⟩ := A; exact ⟨_, _, _, _, _, _, ob, rfl⟩
  | lay l g ths C => obtain ⟨kt, ks, j, F', ob, _⟩ := A; exact ⟨_, _, _, _, _, _, ob, rfl⟩
  | sent l g ths C vs => obtain ⟨kt, ks, j, F', ob, _⟩ := A; exact ⟨_, _, _, _, _, _, ob, rfl⟩
  | line l g ths C vs => obtain ⟨kt, ks, j, F', ob, _⟩ := A; exact ⟨_, _, _, _, _, _, ob, rfl⟩
  | res r => obtain ⟨F', kt, l, s, ob⟩ := A; exact ⟨_, _, _, _, _, _, ob, rfl⟩
def isLay : AJ → Bool
  | .lay .. => true
  | _ => false
def runJ (c : Cir) (b : Nat) (inp out : List Int) : List Int → List (List Int) → AJ → AJ
  | [], _, st => st
  | z :: zs, S, st => runJ c b inp out zs (if isLay st = true then S.drop 1 else S) (thrJ c b inp out z (ansJ c b (S.headD []) st))
/-! ### states of an answerer that answer alike -/
/-! ### the walk beside the honest answerer -/
def wkF (c : Cir) (b : Nat) (th : D) (A : List (List (List Int) × List Int)) (h : Nat) (g : List Int) : List (String × D) :=
  [("circuit", cD c), ("p", .int c.p), ("dims", .int (b : Nat)), ("throws", th), ("answers", .lst (A.map ansD)), ("honest", .hnd h), ("point", .lst (g.map D.int))]
section
variable {c : Cir} {b h : Nat} {th : D} {A : List (List (List Int) × List Int)} {g : List Int}
theorem lkW_circuit : List.lookup "circuit" (wkF c b th A h g) = some (cD c) := rfl
theorem lkW_p : List.lookup "p" (wkF c b th A h g) = some (.int c.p) := rfl
theorem lkW_dims : List.lookup "dims" (wkF c b th A h g) = some (.int (b : Nat)) := rfl
theorem lkW_throws : List.lookup "throws" (wkF c b th A h g) = some (th) := rfl
theorem lkW_answers : List.lookup "answers" (wkF c b th A h g) = some (.lst (A.map ansD)) := rfl
theorem lkW_honest : List.lookup "honest" (wkF c b th A h g) = some (.hnd h) := rfl
theorem lkW_point : List.lookup "point" (wkF c b th A h g) = some (.lst (g.map D.int)) := rfl
end
class Fl_Walk (fl : String → List String) : Prop where
  circuit : (fl "circuit").contains "Walk" = true
  p : (fl "p").contains "Walk" = true
  dims : (fl "dims").contains "Walk" = true
  throws : (fl "throws").contains "Walk" = true
  answers : (fl "answers").contains "Walk" = true
  honest : (fl "honest").contains "Walk" = true
  point : (fl "point").contains "Walk" = true


set_option hygiene false in
local macro_rules | `(tactic| walk_at "wk") => `(tactic| (walk_at "dx"; (try simp only [ob, obh, moI_ins, lkW_circuit, lkW_p, lkW_dims, lkW_throws, lkW_answers, lkW_honest, lkW_point, Fl_Walk.circuit, Fl_Walk.p, Fl_Walk.dims, Fl_Walk.throws, Fl_Walk.answers, Fl_Walk.honest, Fl_Walk.point, Bool.true_eq_false, Bool.false_eq_true, if_true, if_false, exists_eq_left', Option.some.injEq, true_and, and_true])))
set_option hygiene false in
local macro_rules | `(tactic| walk_at "wg") => `(tactic| (walk_at "dx"; (try simp only [ob, g1, g2, moI_ins, lkW_circuit, lkW_p, lkW_dims, lkW_throws, lkW_answers, lkW_honest, lkW_point, Fl_Walk.circuit, Fl_Walk.p, Fl_Walk.dims, Fl_Walk.throws, Fl_Walk.answers, Fl_Walk.honest, Fl_Walk.point, Bool.true_eq_false, Bool.false_eq_true, if_true, if_false, exists_eq_left', Option.some.injEq, true_and, and_true])))

/-! ### a conversation, layer by layer -/
def rndsR (c : Cir) (b l : Nat) : List (List Int) → List Int → List Int → Int → Sum RS Int
  | S :: Ss, z :: zs, ths, C => if askC S c.p C (degsT b (wN c (l + 1))) ths = true then rndsR c b l Ss zs (ths ++ [z]) (valV S z c.p) else .inl (.round l ths.length)
  | [], _, _, C => .inr C
  | _ :: _, [], _, C => .inr C
def convR (c : Cir) (b : Nat) (inp : List Int) : List (List (List Int) × List Int) → List Int → Nat → List Int → Int → RS
  | [], _, l, g, C => if valAt inp g c.p = C then .bel else .inpE l
  | (Ps, L) :: A, zs, l, g, C => match rndsR c b l Ps zs [] C with
    | .inl r => r
    | .inr C' => if lineC c l b g C' (zs.take Ps.length) L = true then convR c b inp A (zs.drop (Ps.length + 1)) (l + 1) (nxtG c l b (zs.take Ps.length) (gi zs (Ps.length : Nat))) (valV L (gi zs (Ps.length : Nat)) c.p) else .lineE l
section
variable {c : Cir} {b : Nat} {inp out : List Int}
theorem runJ_res : ∀ (zs : List Int) (S : List (List Int)) (r : RS), runJ c b inp out zs S (.res r) = .res r
  | [], _, _ => rfl
  | z :: zs, S, r => by
    show runJ c b inp out zs S (.res r) = _
    exact runJ_res zs _ r
theorem runJ_fst {S : List (List Int)} : ∀ (zs ths : List Int), zs ≠ [] → ths.length + zs.length = b + wN c 0 → ∀ r, runJ c b inp out (zs ++ r) S (.fst ths) = runJ c b inp out r S (beginJ c inp 0 (ths ++ zs) (valAt out (ths ++ zs) c.p))
  | [], _, h, _, _ => absurd rfl h
  | [z], ths, _, h, r => by
    show runJ c b inp out r S (startJ c b inp out (ths ++ [z])) = _
    unfold startJ
    rw [if_pos (by rw [List.length_append]; exact h)]
  | z :: y :: zs, ths, _, h, r => by
    show runJ c b inp out (y :: zs ++ r) S (startJ c b inp out (ths ++ [z])) = _
    unfold startJ
    have h : ths.length + (zs.length + 1 + 1) = b + wN c 0 := h
    rw [if_neg (by rw [List.length_append]; show ths.length + 1 ≠ _; omega)]
    rw [runJ_fst (y :: zs) (ths ++ [z]) (by simp) (by rw [List.length_append]; show ths.length + 1 + (zs.length + 1) = _; omega) r]
    simp
theorem runJ_start {zs : List Int} {S : List (List Int)} (h : b + wN c 0 ≤ zs.length) : runJ c b inp out zs S (startJ c b inp out []) = runJ c b inp out (zs.drop (b + wN c 0)) S (beginJ c inp 0 (zs.take (b + wN c 0)) (valAt out (zs.take (b + wN c 0)) c.p)) := by
  by_cases e : b + wN c 0 = 0
  · rw [e, List.drop_zero, List.take_zero]
    unfold startJ
    rw [if_pos (by rw [e]; rfl)]
  · have z := runJ_fst (c := c) (b := b) (inp := inp) (out := out) (S := S) (zs.take (b + wN c 0)) [] (fun z => by have z := congrArg List.length z; rw [List.length_take, List.length_nil] at z; omega) (by rw [List.length_take, List.length_nil]; omega) (zs.drop (b + wN c 0))
    rw [List.take_append_drop, List.nil_append] at z
    unfold startJ
    rw [if_neg (by rw [List.length_nil]; omega)]
    exact z
theorem runJ_rnds {l : Nat} {g : List Int} : ∀ (Ps : List (List Int)) (zs ths : List Int) (C : Int) (S : List (List Int)), Ps.length ≤ zs.length → ths.length + Ps.length ≤ b + 2 * wN c (l + 1) →
    runJ c b inp out zs (Ps ++ S) (.lay l g ths C) = match rndsR c b l Ps zs ths C with
      | .inl r => .res r
      | .inr C' => runJ c b inp out (zs.drop Ps.length) S (.lay l g (ths ++ zs.take Ps.length) C')
  | [], zs, ths, C, S, _, _ => by
    unfold rndsR
    rw [List.length_nil, List.drop_zero, List.take_zero, List.append_nil]
    rfl
  | P :: Ps, [], ths, C, S, h, _ => by simp at h
  | P :: Ps, z :: zs, ths, C, S, h1, h2 => by
    rw [List.length_cons] at h2
    rw [List.length_cons, List.length_cons] at h1
    show runJ c b inp out zs (Ps ++ S) (thrJ c b inp out z (ansJ c b P (.lay l g ths C))) = _
    unfold ansJ rndsR
    dsimp only
    rw [if_neg (by omega)]
    by_cases e : askC P c.p C (degsT b (wN c (l + 1))) ths = true
    · rw [if_pos e, if_pos e]
      show runJ c b inp out zs (Ps ++ S) (.lay l g (ths ++ [z]) (valV P z c.p)) = _
      rw [runJ_rnds Ps zs (ths ++ [z]) (valV P z c.p) S (by omega) (by rw [List.length_append]; show ths.length + 1 + _ ≤ _; omega)]
      rw [List.length_cons, List.drop_succ_cons, List.take_succ_cons, List.append_assoc]
      rfl
    · rw [if_neg e, if_neg e]
      exact runJ_res _ _ _
theorem runJ_line {l : Nat} {g ths zs : List Int} {C z : Int} {L : List Int} {S : List (List Int)} (h : ths.length = b + 2 * wN c (l + 1)) : runJ c b inp out (z :: zs) (L :: S) (.lay l g ths C) = if lineC c l b g C ths L = true then runJ c b inp out zs S (beginJ c inp (l + 1) (nxtG c l b ths z) (valV L z c.p)) else .res (.lineE l) := by
  show runJ c b inp out zs S (thrJ c b inp out z (ansJ c b L (.lay l g ths C))) = _
  unfold ansJ
  dsimp only
  rw [if_pos h]
  by_cases e : lineC c l b g C ths L = true
  · rw [if_pos e, if_pos e]
    rfl
  · rw [if_neg e, if_neg e]
    exact runJ_res _ _ _
theorem runJ_conv : ∀ (A : List (List (List Int) × List Int)) (zs : List Int) (l : Nat) (g : List Int) (C : Int), l + A.length = c.ls.length → (∀ i < A.length, (A.getD i ([], [])).1.length = b + 2 * wN c (l + i + 1)) → zs.length = needN c b l A.length →
    runJ c b inp out zs (flatA A) (beginJ c inp l g C) = .res (convR c b inp A zs l g C)
  | [], zs, l, g, C, hl, _, _ => by
    unfold beginJ convR
    rw [if_neg (by rw [List.length_nil] at hl; omega)]
    exact runJ_res _ _ _
  | (Ps, L) :: A, zs, l, g, C, hl, hA, hz => by
    rw [List.length_cons] at hl
    have h0 : Ps.length = b + 2 * wN c (l + 1) := hA 0 (by rw [List.length_cons]; omega)
    have hz : zs.length = (b + 2 * wN c (l + 1) + 1) + needN c b (l + 1) A.length := hz
    have ih := runJ_conv A (zs.drop (Ps.length + 1)) (l + 1) (nxtG c l b (zs.take Ps.length) (gi zs (Ps.length : Nat))) (valV L (gi zs (Ps.length : Nat)) c.p) (by omega) (fun i hi => by
      have z := hA (i + 1) (by rw [List.length_cons]; omega)
      rw [show l + 1 + i + 1 = l + (i + 1) + 1 by omega]
      exact z) (by rw [List.length_drop]; omega)
    unfold convR
    have eb : beginJ c inp l g C = .lay l g [] C := if_pos (by omega)
    have ef : flatA ((Ps, L) :: A) = Ps ++ (L :: flatA A) := by
      unfold flatA
      rw [List.flatMap_cons]
      simp
    rw [eb, ef, runJ_rnds Ps zs [] C (L :: flatA A) (by omega) (by rw [List.length_nil]; omega)]
    cases rndsR c b l Ps zs [] C with
    | inl r => rfl
    | inr C' =>
      dsimp only
      rw [List.nil_append, List.drop_eq_getElem_cons (by omega), runJ_line (by rw [List.length_take]; omega)]
      have eg : zs[Ps.length]'(by omega) = gi zs (Ps.length : Nat) := by rw [gi_nat, List.getD_eq_getElem?_getD, List.getElem?_eq_getElem (by omega)]; rfl
      rw [eg]
      by_cases e : lineC c l b g C' (zs.take Ps.length) L = true
      · rw [if_pos e, if_pos e]
        exact ih
      · rw [if_neg e, if_neg e]
end
/-! ### == of tuples; the results and the places of blame as values -/
/-! ### the blame of a conversation -/
def jdgF (c : Cir) (b : Nat) (R O : List (List Int)) (zs : List Int) (A : List (List (List Int) × List Int)) : RS := convR c b (inT R (colsN c c.ls.length)) A (zs.drop (b + wN c 0)) 0 (zs.take (b + wN c 0)) (valAt (inT O (colsN c 0)) (zs.take (b + wN c 0)) c.p)
/-- what a whole conversation is made of -/
structure CnvOK (c : Cir) (b : Nat) (zs : List Int) (A : List (List (List Int) × List Int)) : Prop where
  zl : zs.length = b + wN c 0 + needN c b 0 c.ls.length
  al : (A.map fun a => a.1.length) = (List.range c.ls.length).map (fun l => b + 2 * wN c (l + 1))
  zin : InP c.p zs
  sl : ∀ S ∈ flatA A, S.length ≤ 1000
theorem CnvOK.len {c : Cir} {b : Nat} {zs : List Int} {A : List (List (List Int) × List Int)} (h : CnvOK c b zs A) : A.length = c.ls.length := by
  have := congrArg List.length h.al
  rw [List.length_map, List.length_map, List.length_range] at this
  exact this
theorem CnvOK.at {c : Cir} {b : Nat} {zs : List Int} {A : List (List (List Int) × List Int)} (h : CnvOK c b zs A) {i : Nat} (hi : i < A.length) : (A.getD i ([], [])).1.length = b + 2 * wN c (i + 1) := by
  have z := congrArg (fun l => l[i]?) h.al
  have hl := h.len
  rw [List.getElem?_map, List.getElem?_map, List.getElem?_eq_getElem hi, List.getElem?_range (by omega)] at z
  rw [List.getD_eq_getElem?_getD, List.getElem?_eq_getElem hi]
  injection z
theorem CnvOK.run {c : Cir} {b : Nat} {zs : List Int} {A : List (List (List Int) × List Int)} (h : CnvOK c b zs A) (R O : List (List Int)) : resJ (runJ c b (inT R (colsN c c.ls.length)) (inT O (colsN c 0)) zs (flatA A) (startJ c b (inT R (colsN c c.ls.length)) (inT O (colsN c 0)) [])) = rsD (jdgF c b R O zs A) := by
  have hz := h.zl
  rw [runJ_start (by omega), runJ_conv A _ 0 _ _ (by rw [h.len]; omega) (fun i hi => by rw [Nat.zero_add]; exact h.at hi) (by rw [List.length_drop, h.len]; omega)]
  rfl
class Fl_blame (fl : String → List String) : Prop where
  wp : (fl "point").contains "Walk" = true
  wpp : (fl "p").contains "Walk" = true
/-! ### the asker beside the honest answerer: plain law -/
section
variable {c : Cir} {most wide b l : Nat} {B g r : List Int}
end
/-! a wrong claim that is believed has a blame -/
set_option hygiene false in
local macro_rules | `(tactic| walk_at "bl") => `(tactic| (walk_at "dx"; (try simp only [dgTupG, dgsCons, dgsNil, dgFld, asT, dVar, List.length_cons, List.length_nil, List.getElem?_cons_zero, ob, obL, obh, hk, moI_ins, Fl_B1.honest, Fl_B1.circuit, Fl_B1.bits, Fl_B1.p, Fl_B1.claimed, Fl_B1.choices, Fl_B1.used, Fl_B1.claim, Fl_B1.layer, Fl_B1.point, Fl_B1.throws, Fl_B1.sent, Fl_B1.abits, Fl_B1.ap,
  List.getElem?_set_self, List.set_set, List.length_set, look_put, String.reduceEq, reduceIte, exists_eq_left', Option.some.injEq, true_and, and_true])))

/-! ### four objects side by side in the store -/
section
variable {n0 : Nat} {pre post : List MO} {a b c d x : MO}
end
/-! ### rounds one by one -/
/-! ### what a bluffer or a guesser sends has the claim as its sum -/
class Mt_A (mt : String → List (String × DC)) : Prop where
  begin : (mt "begin").lookup "Answerer" = some C_Answerer_begin
  poly : (mt "poly").lookup "Answerer" = some C_Answerer_poly
  throw : (mt "throw").lookup "Answerer" = some C_Answerer_throw
  line : (mt "line").lookup "Answerer" = some C_Answerer_line
local macro_rules | `(tactic| walk_at "dx") => `(tactic| try simp only [eq_self_iff_true, okE_int, okE_bl, okE_non, eqD_int, eqD_bl, kq_NoneType_int, kq_NoneType_bool, kq_NoneType_list, kq_NoneType_tuple, kq_NoneType_str, kq_bool_int, kq_bool_bool, kq_bool_list, kq_bool_tuple, kq_bool_str, kq_int_int, kq_int_bool, kq_int_list, kq_int_tuple, kq_int_str, kq_str_int, kq_str_bool, kq_str_list, kq_str_tuple, kq_str_str, kq_list_int, kq_list_bool, kq_list_list, kq_list_tuple, kq_list_str, kq_tuple_int, kq_tuple_bool, kq_tuple_list, kq_tuple_tuple, kq_tuple_str, Mt_A.begin, Mt_A.poly, Mt_A.throw, Mt_A.line, oInL, oIsB, oNotB, oEqH, oNeH, oShr, oExt, cMaxL, cMinL, cAny, cAll, cTuple, cListM, dRevL, dFld, dSetF, dAugF, dMeth, dMake, moI_ins, app_len, set_app, List.contains_cons, List.contains_nil, Bool.true_or,  Bool.true_eq_false, decide_true, not_true_eq_false, not_false_eq_true, Bool.not_true, Bool.not_false, decide_eq_true_eq, Bool.not_eq_true', decide_eq_false_iff_not, dSeq, dSet, dRaise_one, dRaise_two, dTryAs, dXf, dIsE, List.lookup_cons, List.lookup_nil, beq_self_eq_true, Bool.false_eq_true, if_false, dOp, dUn, dVar, dC, dCB, dCons, dNil, dRet, dRetN, dIf, dB, dAnd, dOr, dNot, dDrop, dNext, dMethL, dSetIx, dAndV, dOrV, dNotV, dBlV, dIfE, dLst, dTup, dLstM, dCall, dChain, dAsg, dgName, dgTup, bindD, asT, dFor, diList, diRng1, diRng2, diEnumerate, diZip, diReversed, dLc, dLcM, dYes, wipeD, dAug, dSl, dSlT, dpN, dpS,
  oI, oI0, oB0, oAdd, oNeg, oEq, oNe, oIx, oIsN, oNotN, isNon, oShl, oApp, oPop, oPopAt, cLen, cInt, cAbs, cSum, cMax2, cMin2, cList, cIsi, tyD, asL, asF, asK, moL_lst, ModC, DivC,
  List.getElem?_cons_zero, List.getElem?_cons_succ, List.set_cons_zero, List.set_cons_succ, List.getElem?_nil, List.length_cons, List.length_nil, List.length_map, Option.map_some, Option.bind_some, Option.isSome_some, if_true, true_and, and_true, MM.push])

set_option hygiene false in
local macro_rules | `(tactic| walk_at "an") => `(tactic| (walk_at "dx"; (try simp only [dgTupG, dgsCons, dgsNil, dgFld, asT, dVar, List.length_cons, List.length_nil, List.getElem?_cons_zero, ob, obL, hk, moI_ins, Mt_A.begin, Mt_A.poly, Mt_A.throw, Mt_A.line, Fl_Answerer.circuit, Fl_Answerer.tables, Fl_Answerer.bits, Fl_Answerer.p, Fl_Answerer.steps, Fl_Answerer.layer, Fl_Answerer.round, Fl_Answerer.wide, Fl_Answerer.gates, Fl_Answerer.near, Fl_Answerer.columns, Fl_Answerer.first, Fl_Answerer.second, Fl_Answerer.share, Fl_Answerer.below, Fl_Answerer.factors, Fl_Answerer.rest, Fl_Answerer.left,
  List.getElem?_set_self, List.set_set, List.length_set, look_put, String.reduceEq, reduceIte, exists_eq_left', Option.some.injEq, true_and, and_true])))

local macro_rules | `(tactic| walk_at "dx") => `(tactic| try simp only [eq_self_iff_true, okE_int, okE_bl, okE_non, eqD_int, eqD_bl, kq_NoneType_int, kq_NoneType_bool, kq_NoneType_list, kq_NoneType_tuple, kq_NoneType_str, kq_bool_int, kq_bool_bool, kq_bool_list, kq_bool_tuple, kq_bool_str, kq_int_int, kq_int_bool, kq_int_list, kq_int_tuple, kq_int_str, kq_str_int, kq_str_bool, kq_str_list, kq_str_tuple, kq_str_str, kq_list_int, kq_list_bool, kq_list_list, kq_list_tuple, kq_list_str, kq_tuple_int, kq_tuple_bool, kq_tuple_list, kq_tuple_tuple, kq_tuple_str, oInL, oIsB, oNotB, oEqH, oNeH, oShr, oExt, cMaxL, cMinL, cAny, cAll, cTuple, cListM, dRevL, dFld, dSetF, dAugF, dMeth, dMake, moI_ins, app_len, set_app, List.contains_cons, List.contains_nil, Bool.true_or,  Bool.true_eq_false, decide_true, not_true_eq_false, not_false_eq_true, Bool.not_true, Bool.not_false, decide_eq_true_eq, Bool.not_eq_true', decide_eq_false_iff_not, dSeq, dSet, dRaise_one, dRaise_two, dTryAs, dXf, dIsE, List.lookup_cons, List.lookup_nil, beq_self_eq_true, Bool.false_eq_true, if_false, dOp, dUn, dVar, dC, dCB, dCons, dNil, dRet, dRetN, dIf, dB, dAnd, dOr, dNot, dDrop, dNext, dMethL, dSetIx, dAndV, dOrV, dNotV, dBlV, dIfE, dLst, dTup, dLstM, dCall, dChain, dAsg, dgName, dgTup, bindD, asT, dFor, diList, diRng1, diRng2, diEnumerate, diZip, diReversed, dLc, dLcM, dYes, wipeD, dAug, dSl, dSlT, dpN, dpS,
  oI, oI0, oB0, oAdd, oNeg, oEq, oNe, oIx, oIsN, oNotN, isNon, oShl, oApp, oPop, oPopAt, cLen, cInt, cAbs, cSum, cMax2, cMin2, cList, cIsi, tyD, asL, asF, asK, moL_lst, ModC, DivC,
  List.getElem?_cons_zero, List.getElem?_cons_succ, List.set_cons_zero, List.set_cons_succ, List.getElem?_nil, List.length_cons, List.length_nil, List.length_map, Option.map_some, Option.bind_some, Option.isSome_some, if_true, true_and, and_true, MM.push])


/-! ### l.index(x) of flat things -/
/-! ### what the laws k23, k26 to k29 draw -/
/-! ### honest answers are believed -/
section
variable {c : Cir} {most wide b l : Nat} {B g : List Int}
end
/-! ### the asker's work, the lengths of what is accepted, the place in a conversation -/
section
variable {c : Cir} {b : Nat} {inp out : List Int}
end
/-! ### a comprehension whose items are new changing objects; a list of changing lists that no longer change -/
section
variable {X : Cx} {E : WX}
end
/-! ### a wrong claim with honest answers is refused at the first answer -/
/-! ### copies of lists -/
open PySem L2 PyProof.Rows
/-! ### the greatest of three numbers -/
def max3I (a b c : Int) : Int := if b > a then (if c > b then c else b) else (if c > a then c else a)
theorem call_max3 {X : Cx} (hc : X.calm = true) : CallR X (.builtin "max") (fun xs H Q => ∃ a b c, xs = [.int a, .int b, .int c] ∧ Q (.int (max3I a b c)) H) := by
  intro pins s σ H xs us Q I r h
  obtain ⟨a, b, c, rfl, q⟩ := h
  cases r with
  | cons r1 r =>
    cases r with
    | cons r2 r =>
      cases r with
      | cons r3 r =>
        cases r
        obtain ⟨t1, rfl⟩ := r1
        obtain ⟨t2, rfl⟩ := r2
        obtain ⟨t3, rfl⟩ := r3
        refine max_three_ints (I.ok.hd hc) fun h' tk k => ⟨_, H, I.kept k, ?_, q⟩
        unfold max3I
        by_cases h1 : b > a
        · rw [if_pos h1, if_pos h1]
          by_cases h2 : c > b
          · rw [if_pos h2, if_pos h2]; exact ⟨_, rfl⟩
          · rw [if_neg h2, if_neg h2]; exact ⟨_, rfl⟩
        · rw [if_neg h1, if_neg h1]
          by_cases h2 : c > a
          · rw [if_pos h2, if_pos h2]; exact ⟨_, rfl⟩
          · rw [if_neg h2, if_neg h2]; exact ⟨_, rfl⟩
def cMax3 : DCB := fun ds m Φ => match ds with
  | [.int a, .int b, .int c] => Φ (.int (max3I a b c)) m
  | _ => False
theorem cbl_max3 {K : PySem.W.Frag} : CbL K (fun xs H Q => ∃ a b c, xs = [V.int a, V.int b, V.int c] ∧ Q (.int (max3I a b c)) H) cMax3 := fun w m H ds vs Q Φ h r vl q => by
  unfold cMax3 at q
  split at q
  · obtain ⟨v, vs, rfl, rv, r⟩ : ∃ v vs', vs = v :: vs' ∧ Rep K w _ v ∧ RepAll K w _ vs' := by
      obtain ⟨v, vs', e, a, b⟩ := r
      exact ⟨v, vs', e, a, b⟩
    obtain ⟨u, x, rfl, ru, rx⟩ := rep2 r
    cases (show v = V.int _ from rv)
    cases (show u = V.int _ from ru)
    cases (show x = V.int _ from rx)
    exact ⟨_, _, _, rfl, vl.int h q⟩
  · exact q.elim
/-! ### the sum of a tuple of numbers -/
theorem cr_sumT {X : Cx} (hc : X.calm = true) : CallR X (.builtin "sum") (fun vs H Q => ∃ (a : Addr) (ns : List Int), vs = [V.ref a] ∧ SqT X.K H a (ns.map V.int) ∧ Q (.int ns.sum) H) := by
  intro pins s σ H vs us Q I r h
  obtain ⟨a, ns, rfl, hs, q⟩ := h
  obtain ⟨its, rv, hl, _⟩ := I.tuple hs
  rw [Vals.ref1 r]
  have hi := rv.ints
  obtain ⟨xs, e⟩ := hi.allInts.items
  have hn : numsOf (intItems xs).toList = ns := by rw [← e]; exact hi.numsOf
  rw [nums_intItems] at hn
  rw [e] at hl
  refine PySem.W.ktm_sumG (I.ok.hd hc) hl fun h' tk t' hk => ?_
  rw [preSum_eq, List.take_of_length_le (by simp), hn]
  exact ⟨.int _, H, I.kept hk, ⟨_, rfl⟩, q⟩
def cSumT : DCB := fun ds m Φ => match ds with
  | [.tup xs] => ∃ ns : List Int, xs = ns.map D.int ∧ Φ (.int ns.sum) m
  | _ => False
theorem repAll_intsE {K : PySem.W.Frag} {w : Wd} : ∀ {ns : List Int} {us : List V}, RepAll K w (ns.map D.int) us → us = ns.map V.int
  | [], _, h => h
  | n :: ns, us, h => by
    obtain ⟨v, vs', rfl, a, b⟩ := h
    rw [repAll_intsE b]
    rw [show v = V.int n from a]
    rfl
theorem cbl_sumT {K : PySem.W.Frag} : CbL K (fun vs H Q => ∃ (a : Addr) (ns : List Int), vs = [V.ref a] ∧ SqT K H a (ns.map V.int) ∧ Q (.int ns.sum) H) cSumT := fun w m H ds vs Q Φ h r vl q => by
  unfold cSumT at q
  split at q
  · obtain ⟨v, rfl, rv⟩ := rep1 r
    obtain ⟨ns, rfl, q⟩ := q
    obtain ⟨a, us, rfl, ha, ra⟩ := asT_ok h (show asT (.tup (ns.map D.int)) = some (ns.map D.int) from rfl) rv
    exact ⟨a, ns, rfl, by rw [← repAll_intsE ra]; exact ha, vl.int h q⟩
  · exact q.elim

open PySem L2 PyProof.Rows
/-! ### a try with several clauses, all of them with the same name -/
abbrev Cls := Addr → Value → Option Addr → TS
section
variable {X : Cx} {n : Str} {i : Nat} {body : List Stmt} {h₀ : ExceptHandler} {hds : List ExceptHandler} {l : List (Value × Cls)} {pos : Pos} {tb : WX → TS} {Wout : WX}
end
section
variable {X : Cx} {E : WX} {n : Str} {i : Nat}
end

/-! ### a def that calls itself: the induction's start; the sum of two lists as a list of one's own -/
/-! ### matrices as tables -/
def mulE (L R : List Int) (a b : Nat) (p : Int) (i j : Nat) : Int := (S (2 ^ b) fun k => gi L ((i + k * 2 ^ a : Nat) : Int) * gi R ((k + j * 2 ^ b : Nat) : Int)) % p
def mulT (L R : List Int) (a b c : Nat) (p : Int) : List Int := (List.range (2 ^ c * 2 ^ a)).map fun z => mulE L R a b p (z % 2 ^ a) (z / 2 ^ a)
def szD (a b c : Nat) : D := .tup [.int (a : Nat), .int (b : Nat), .int (c : Nat)]
theorem mulT_len {L R : List Int} {a b c : Nat} {p : Int} : (mulT L R a b c p).length = 2 ^ c * 2 ^ a := by unfold mulT; rw [List.length_map, List.length_range]
theorem mulT_in {L R : List Int} {a b c : Nat} {p : Int} (hp : 2 ≤ p) : InP p (mulT L R a b c p) := fun y hy => by
  obtain ⟨z, _, rfl⟩ := List.mem_map.mp hy
  exact mod_in hp
def C_multiply : DC := fun ds m Φ _ => ∃ (L R : List Int) (a b c : Nat) (p : Int), ds = [.lst (L.map D.int), .lst (R.map D.int), szD a b c, .int p] ∧ PM p ∧ InP p L ∧ InP p R ∧ L.length = 2 ^ (a + b) ∧ R.length = 2 ^ (b + c) ∧ a ≤ 6 ∧ b ≤ 6 ∧ c ≤ 6 ∧ Φ (.lst ((mulT L R a b c p).map D.int)) m
theorem pow6 {a : Nat} (h : a ≤ 6) : 2 ^ a ≤ 64 ∧ 1 ≤ 2 ^ a := ⟨Nat.le_trans (Nat.pow_le_pow_right (by decide) h) (by decide), Nat.one_le_two_pow⟩
theorem shlN (k a : Nat) : (k : Int) * 2 ^ ((a : Nat) : Int).toNat = ((k * 2 ^ a : Nat) : Int) := by rw [Int.toNat_natCast, Int.natCast_mul, Int.natCast_pow]; rfl
theorem cpowN {k a : Nat} (hk : k ≤ 1000000) (h : a ≤ 1000) : CPow (k : Nat) (a : Nat) := ⟨by omega, by omega, by omega⟩
/-- an index of a table by two parts -/
theorem ix2 {i k a b : Nat} (hi : i < 2 ^ a) (hk : k < 2 ^ b) : i + k * 2 ^ a < 2 ^ (a + b) := by
  rw [Nat.pow_add, Nat.mul_comm (2 ^ a)]
  have : (k + 1) * 2 ^ a ≤ 2 ^ b * 2 ^ a := Nat.mul_le_mul_right _ hk
  rw [Nat.add_mul, Nat.one_mul] at this
  omega
def W_multiply : DS := dSeq (dAsg (dVar 2) (dgTup [4, 5, 6])) (dSeq (dSet 7 (dLstM (dNil))) (dSeq (dFor (diRng1 (dCons (dOp oShl (dC (.int 1)) (dVar 6)) (dNil))) (dgName 8) (dFor (diRng1 (dCons (dOp oShl (dC (.int 1)) (dVar 4)) (dNil))) (dgName 9) (dDrop (dMethL oApp (dVar 7) (dCons (dOp oMod (dCB cSum (dCons (dLc (diRng1 (dCons (dOp oShl (dC (.int 1)) (dVar 5)) (dNil))) (dgName 10) (dYes) (dOp oMul (dOp oIx (dVar 0) (dOp oAdd (dVar 9) (dOp oShl (dVar 10) (dVar 4)))) (dOp oIx (dVar 1) (dOp oAdd (dVar 10) (dOp oShl (dVar 8) (dVar 5))))) [10]) (dNil))) (dVar 3)) (dNil)))))) (dRet (dVar 7))))
theorem rd_multiply : ∀ ds m Φ Ψ, ds.length = 4 → C_multiply ds m Φ Ψ → W_multiply { nx := fun _ m' => retQ m Φ .non m', rt := retQ m Φ } (fun _ => retX m Ψ) (ds.map some ++ List.replicate (11 - ds.length) none) m := by
  intro ds m Φ Ψ _ h
  obtain ⟨L, R, a, b, c, p, rfl, hp, hL, hR, lL, lR, ha, hb, hc, q⟩ := h
  have hp1 := hp.1
  have hp2 := hp.2
  obtain ⟨a64, a1⟩ := pow6 ha
  obtain ⟨b64, b1⟩ := pow6 hb
  obtain ⟨c64, c1⟩ := pow6 hc
  change W_multiply _ _ [some (.lst (L.map D.int)), some (.lst (R.map D.int)), some (szD a b c), some (.int p), none, none, none, none, none, none, none] m
  unfold W_multiply szD
  walk_at "stp"
  walk_at "nxt"
  refine ⟨by decide, ?_⟩
  walk_at "nxt"
  rw [shl1]
  refine ⟨cpow_ok (by omega), ⟨by omega, by omega⟩, ?_⟩
  rw [Int.toNat_natCast, rngD0]
  have e64 : 2 ^ c * 2 ^ a ≤ 64 * 64 := Nat.mul_le_mul c64 a64
  refine forW_nat (fun j ρ m' => ∃ (v8 v9 v10 : Option D), ρ = [some (.lst (L.map D.int)), some (.lst (R.map D.int)), some (szD a b c), some (.int p), some (.int (a : Nat)), some (.int (b : Nat)), some (.int (c : Nat)), some (.hnd m.M.length), v8, v9, v10] ∧
    m' = ⟨m.M ++ [MO.lst (((List.range (j * 2 ^ a)).map fun z => mulE L R a b p (z % 2 ^ a) (z / 2 ^ a)).map D.int)], m.s⟩) ?_ ?_ ⟨_, _, _, rfl, by rw [Nat.zero_mul]; rfl⟩
  · rintro j kk hj hkk ρ m' ⟨v8, v9, v10, rfl, rfl⟩
    clear h1
    have jm : (j + 1) * 2 ^ a ≤ 2 ^ c * 2 ^ a := Nat.mul_le_mul_right _ hj
    rw [Nat.add_mul, Nat.one_mul] at jm
    walk_at "dx"
    rw [shl1]
    refine ⟨cpow_ok (by omega), ⟨by omega, by omega⟩, ?_⟩
    rw [Int.toNat_natCast, rngD0]
    refine forW_nat (fun i ρ m' => ∃ (v9 v10 : Option D), ρ = [some (.lst (L.map D.int)), some (.lst (R.map D.int)), some (szD a b c), some (.int p), some (.int (a : Nat)), some (.int (b : Nat)), some (.int (c : Nat)), some (.hnd m.M.length), some (.int (j : Nat)), v9, v10] ∧
      m' = ⟨m.M ++ [MO.lst (((List.range (j * 2 ^ a + i)).map fun z => mulE L R a b p (z % 2 ^ a) (z / 2 ^ a)).map D.int)], m.s⟩) ?_ ?_ ⟨_, _, rfl, rfl⟩
    · rintro i k2 hi hk2 ρ m' ⟨v9, v10, rfl, rfl⟩
      walk_at "dx"
      rw [shl1]
      refine ⟨cpow_ok (by omega), ⟨by omega, by omega⟩, ?_⟩
      rw [Int.toNat_natCast, rngD0]
      refine lcW_fn (inj := fun i : Nat => D.int (i : Nat)) (out := D.int) (fun k : Nat => gi L ((i + k * 2 ^ a : Nat) : Int) * gi R ((k + j * 2 ^ b : Nat) : Int)) _ (List.range (2 ^ b)) ?_ (fun _ => rfl) (by rw [List.length_range]; show _ ≤ 16777216; omega) ?_
      · intro k hk m2 Θ hΘ
        have hk := List.mem_range.mp hk
        have x1 := ix2 hi hk
        have x2 := ix2 hk hj
        walk_at "dx"
        rw [shlN, shlN]
        refine ⟨cpowN (by omega) (by omega), _, by rw [show ((i : Nat) : Int) + ((k * 2 ^ a : Nat) : Int) = ((i + k * 2 ^ a : Nat) : Int) by omega]; exact atI_gi (by omega) (by omega), ?_⟩
        walk_at "dx"
        have g1 := hL.gN (i := i + k * 2 ^ a) (by omega)
        refine ⟨cpowN (by omega) (by omega), _, by rw [show ((k : Nat) : Int) + ((j * 2 ^ b : Nat) : Int) = ((k + j * 2 ^ b : Nat) : Int) by omega]; exact atI_gi (by omega) (by omega), ?_⟩
        walk_at "dx"
        exact ⟨mulL g1.1 (by omega), hΘ⟩
      walk_at "dx"
      refine ⟨_, ints_map _, ?_⟩
      walk_at "dx"
      refine ⟨by omega, by rw [List.length_range]; show j * 2 ^ a + i < 16777216; omega, ?_⟩
      refine hk2 _ _ ⟨_, _, rfl, ?_⟩
      rw [← Nat.add_assoc, List.range_succ, List.map_append, List.map_append]
      have em : (j * 2 ^ a + i) % 2 ^ a = i := by rw [Nat.mul_comm, Nat.mul_add_mod, Nat.mod_eq_of_lt hi]
      have ed : (j * 2 ^ a + i) / 2 ^ a = j := by rw [Nat.mul_comm, Nat.mul_add_div (by omega), Nat.div_eq_of_lt hi, Nat.add_zero]
      rw [List.map_cons, List.map_nil, em, ed, sum_S]
      rfl
    · rintro ρ m' ⟨v9, v10, rfl, rfl⟩
      refine hkk _ _ ⟨_, _, _, rfl, ?_⟩
      rw [Nat.add_mul, Nat.one_mul]
  · rintro ρ m' ⟨v8, v9, v10, rfl, rfl⟩
    walk_at "lst"
    exact ⟨m.M, _, _, rfl, kept.rfl, .inr ⟨0, _, rfl, rfl, rfl⟩, clAll_ints _, q⟩
/-! ### what is checked -/
def errP (c f : String) (v : String) (Ψ : XP) (m : MM) : Prop := Ψ c [(f, .str (PySem.Str.ofString v))] m
def C_check_field : DC := fun ds m Φ Ψ => ∃ p : Int, ds = [.int p] ∧ ((2 ≤ p ∧ p ≤ 2147483647 ∧ Pr p) → (p = 2 → errP "CircuitError" "part" "modulus" Ψ m) ∧ (p ≠ 2 → Φ .non m)) ∧ (¬ (2 ≤ p ∧ p ≤ 2147483647 ∧ Pr p) → Ψ "FieldError" [("number", .int p)] m)
def C_check_sizes : DC := fun ds m Φ Ψ => ∃ (a b c : Nat) (p : Int), ds = [szD a b c, .int p] ∧ ((2 ≤ p ∧ p ≤ 2147483647 ∧ Pr p) → (p = 2 → errP "CircuitError" "part" "modulus" Ψ m) ∧ (p ≠ 2 → (max3I ((a + b : Nat) : Int) ((b + c : Nat) : Int) ((a + c : Nat) : Int) > 12 → errP "SizeError" "limit" "matrix" Ψ m) ∧ (¬ max3I ((a + b : Nat) : Int) ((b + c : Nat) : Int) ((a + c : Nat) : Int) > 12 → Φ .non m))) ∧
  (¬ (2 ≤ p ∧ p ≤ 2147483647 ∧ Pr p) → Ψ "FieldError" [("number", .int p)] m)
def matOk (T : List Int) (n : Nat) (p : Int) : Bool := decide (T.length = 2 ^ n) && T.all fun x => decide (0 ≤ x ∧ x < p)
theorem matOk_iff {T : List Int} {n : Nat} {p : Int} : matOk T n p = true ↔ T.length = 2 ^ n ∧ InP p T := by
  unfold matOk
  rw [Bool.and_eq_true, decide_eq_true_iff, List.all_eq_true]
  exact ⟨fun ⟨h1, h2⟩ => ⟨h1, fun x hx => of_decide_eq_true (h2 x hx)⟩, fun ⟨h1, h2⟩ => ⟨h1, fun x hx => decide_eq_true (h2 x hx)⟩⟩
def C_check_matrix : DC := fun ds m Φ Ψ => ∃ (T : List Int) (n : Nat) (p : Int), ds = [.lst (T.map D.int), .int (n : Nat), .int p] ∧ n ≤ 1000 ∧ T.length ≤ 1000000 ∧ (matOk T n p = false → errP "CircuitError" "part" "matrix" Ψ m) ∧ (matOk T n p = true → Φ .non m)
def C_product_throws : DC := fun ds m Φ _ => ∃ (a b c : Nat), ds = [szD a b c] ∧ Φ (.int ((a + b + c : Nat) : Int)) m
def C_product_share : DC := fun ds m Φ _ => ∃ (a b c : Nat), ds = [szD a b c] ∧ b ≤ 1000 ∧ Φ (.int ((a + c + 2 * b : Nat) : Int)) m
/-- what is wrong with a conversation's form -/
def talkE (n rounds : Nat) (ths : List Int) (np : Nat) (p : Int) : Option String := if ths.length ≠ n then some "throws" else if ths.all (fun x => decide (0 ≤ x ∧ x < p)) = false then some "throw" else if np ≠ rounds then some "answers" else none
def C_check_talk : DC := fun ds m Φ Ψ => ∃ (n rounds : Nat) (ths : List Int) (P : List (List Int)) (p : Int), ds = [.int (n : Nat), .int (rounds : Nat), .lst (ths.map D.int), .lst (P.map intL), .int p] ∧ ths.length ≤ 1000 ∧ P.length ≤ 1000 ∧
  (∀ e, talkE n rounds ths P.length p = some e → errP "TalkError" "step" e Ψ m) ∧ (talkE n rounds ths P.length p = none → Φ .non m)
def W_check_field : DS := dSeq (dDrop (dCall 1 C_check_modulus (dCons (dVar 0) (dNil)))) (dIf (dB (dOp oEq (dVar 0) (dC (.int 2)))) (dRaise "CircuitError" ["part"] (dCons (dC (.str (PySem.Str.ofString "modulus"))) (dNil))) (dNext))
def W_check_sizes : DS := dSeq (dAsg (dVar 0) (dgTup [2, 3, 4])) (dSeq (dDrop (dCall 1 C_check_field (dCons (dVar 1) (dNil)))) (dIf (dB (dOp oGt (dCB cMax3 (dCons (dOp oAdd (dVar 2) (dVar 3)) (dCons (dOp oAdd (dVar 3) (dVar 4)) (dCons (dOp oAdd (dVar 2) (dVar 4)) (dNil))))) ((dC (.int 12))))) (dRaise "SizeError" ["limit"] (dCons (dC (.str (PySem.Str.ofString "matrix"))) (dNil))) (dNext)))
def W_check_matrix : DS := dIf (dOr (dB (dOp oNe (dCB cLen (dCons (dVar 0) (dNil))) (dOp oShl (dC (.int 1)) (dVar 1)))) (dNot (dB (dCB cAll (dCons (dLc (diList (dVar 0)) (dgName 3) (dYes) (dCall 2 C_is_number (dCons (dVar 3) (dCons (dVar 2) (dNil)))) [3]) (dNil)))))) (dRaise "CircuitError" ["part"] (dCons (dC (.str (PySem.Str.ofString "matrix"))) (dNil))) (dNext)
def W_product_throws : DS := dRet (dCB cSumT (dCons (dVar 0) (dNil)))
def W_product_share : DS := dRet (dOp oAdd (dOp oAdd (dOp oIx (dVar 0) (dC (.int 0))) (dOp oIx (dVar 0) (dC (.int 2)))) (dOp oMul (dC (.int 2)) (dOp oIx (dVar 0) (dC (.int 1)))))
def W_check_talk : DS := dSeq (dIf (dB (dOp oNe (dCB cLen (dCons (dVar 2) (dNil))) (dVar 0))) (dRaise "TalkError" ["step"] (dCons (dC (.str (PySem.Str.ofString "throws"))) (dNil))) (dNext)) (dSeq (dIf (dNot (dB (dCB cAll (dCons (dLc (diList (dVar 2)) (dgName 5) (dYes) (dCall 2 C_is_number (dCons (dVar 5) (dCons (dVar 4) (dNil)))) [5]) (dNil))))) (dRaise "TalkError" ["step"] (dCons (dC (.str (PySem.Str.ofString "throw"))) (dNil))) (dNext)) (dIf (dB (dOp oNe (dCB cLen (dCons (dVar 3) (dNil))) (dVar 1))) (dRaise "TalkError" ["step"] (dCons (dC (.str (PySem.Str.ofString "answers"))) (dNil))) (dNext)))
theorem rd_check_field : ∀ ds m Φ Ψ, ds.length = 1 → C_check_field ds m Φ Ψ → W_check_field { nx := fun _ m' => Φ .non m', rt := Φ } (fun _ => Ψ) (ds.map some ++ List.replicate (1 - ds.length) none) m := by
  intro ds m Φ Ψ _ h
  obtain ⟨p, rfl, q1, q2⟩ := h
  change W_check_field _ _ [some (.int p)] m
  unfold W_check_field errP at *
  walk_at "stp"
  refine ⟨p, rfl, fun h => ?_, q2⟩
  obtain ⟨a1, a2⟩ := q1 h
  subst h1
  walk_at "dx"
  by_cases e : p = 2
  · rw [if_pos e]
    exact a1 e
  · rw [if_neg e]
    exact a2 e
theorem rd_check_sizes : ∀ ds m Φ Ψ, ds.length = 2 → C_check_sizes ds m Φ Ψ → W_check_sizes { nx := fun _ m' => Φ .non m', rt := Φ } (fun _ => Ψ) (ds.map some ++ List.replicate (5 - ds.length) none) m := by
  intro ds m Φ Ψ _ h
  obtain ⟨a, b, c, p, rfl, q1, q2⟩ := h
  change W_check_sizes _ _ [some (szD a b c), some (.int p), none, none, none] m
  unfold W_check_sizes errP szD at *
  walk_at "stp"
  walk_at "nxt"
  refine ⟨p, rfl, fun h => ⟨fun e => (q1 h).1 e, fun e => ?_⟩, q2⟩
  obtain ⟨b1, b2⟩ := (q1 h).2 e
  subst h1
  unfold cMax3
  walk_at "dx"
  rw [show ((a : Nat) : Int) + (b : Nat) = ((a + b : Nat) : Int) by omega, show ((b : Nat) : Int) + (c : Nat) = ((b + c : Nat) : Int) by omega, show ((a : Nat) : Int) + (c : Nat) = ((a + c : Nat) : Int) by omega]
  by_cases hm : max3I ((a + b : Nat) : Int) ((b + c : Nat) : Int) ((a + c : Nat) : Int) > 12
  · rw [if_pos hm]
    exact b1 hm
  · rw [if_neg hm]
    exact b2 hm
theorem rd_check_matrix : ∀ ds m Φ Ψ, ds.length = 3 → C_check_matrix ds m Φ Ψ → W_check_matrix { nx := fun _ m' => Φ .non m', rt := Φ } (fun _ => Ψ) (ds.map some ++ List.replicate (4 - ds.length) none) m := by
  intro ds m Φ Ψ _ h
  obtain ⟨T, n, p, rfl, hn, hT, q1, q2⟩ := h
  change W_check_matrix _ _ [some (.lst (T.map D.int)), some (.int (n : Nat)), some (.int p), none] m
  unfold W_check_matrix errP at *
  walk_at "dx"
  rw [shl1]
  refine ⟨cpow_ok hn, ?_⟩
  by_cases hl : T.length = 2 ^ n
  · rw [if_neg (by rw [hl]; exact fun h => h rfl)]
    refine lcW_fn (inj := D.int) (out := D.bl) (fun x => decide (0 ≤ x ∧ x < p)) m T (fun x hx m' Θ h => ?_) (fun _ => rfl) (by show _ ≤ 16777216; omega) ?_
    · walk_at "dx"
      exact ⟨x, p, rfl, h⟩
    walk_at "dx"
    refine ⟨_, bls_map _, ?_⟩
    rw [List.all_map]
    cases hb : T.all (id ∘ fun x => decide (0 ≤ x ∧ x < p)) with
    | true =>
      rw [if_neg (by decide)]
      exact q2 (by unfold matOk; rw [decide_eq_true hl]; exact hb)
    | false =>
      rw [if_pos rfl]
      exact q1 (by unfold matOk; rw [decide_eq_true hl]; exact hb)
  · rw [if_pos (by omega)]
    exact q1 (by unfold matOk; rw [decide_eq_false hl]; rfl)
theorem rd_product_throws : ∀ ds m Φ Ψ, ds.length = 1 → C_product_throws ds m Φ Ψ → W_product_throws { nx := fun _ m' => Φ .non m', rt := Φ } (fun _ => Ψ) (ds.map some ++ List.replicate (1 - ds.length) none) m := by
  intro ds m Φ Ψ _ h
  obtain ⟨a, b, c, rfl, q⟩ := h
  change W_product_throws _ _ [some (szD a b c)] m
  unfold W_product_throws szD
  walk_at "dx"
  refine ⟨[(a : Nat), (b : Nat), (c : Nat)], rfl, ?_⟩
  rw [show ([(a : Nat), (b : Nat), (c : Nat)] : List Int).sum = ((a + b + c : Nat) : Int) by simp; omega]
  exact q
theorem rd_product_share : ∀ ds m Φ Ψ, ds.length = 1 → C_product_share ds m Φ Ψ → W_product_share { nx := fun _ m' => Φ .non m', rt := Φ } (fun _ => Ψ) (ds.map some ++ List.replicate (1 - ds.length) none) m := by
  intro ds m Φ Ψ _ h
  obtain ⟨a, b, c, rfl, hb, q⟩ := h
  change W_product_share _ _ [some (szD a b c)] m
  unfold W_product_share szD
  walk_at "dx"
  refine ⟨.int (a : Nat), rfl, .int (c : Nat), rfl, .int (b : Nat), rfl, ?_⟩
  walk_at "dx"
  rw [show ((a : Nat) : Int) + (c : Nat) + 2 * (b : Nat) = ((a + c + 2 * b : Nat) : Int) by omega]
  exact ⟨mulL (by decide) (by decide), q⟩
theorem rd_check_talk : ∀ ds m Φ Ψ, ds.length = 5 → C_check_talk ds m Φ Ψ → W_check_talk { nx := fun _ m' => Φ .non m', rt := Φ } (fun _ => Ψ) (ds.map some ++ List.replicate (6 - ds.length) none) m := by
  intro ds m Φ Ψ _ h
  obtain ⟨n, rounds, ths, P, p, rfl, hl, hP, q1, q2⟩ := h
  change W_check_talk _ _ [some (.int (n : Nat)), some (.int (rounds : Nat)), some (.lst (ths.map D.int)), some (.lst (P.map intL)), some (.int p), none] m
  unfold W_check_talk errP talkE at *
  walk_at "stp"
  by_cases e1 : ths.length = n
  · rw [if_neg (by omega)]
    rw [if_neg (by omega)] at q1 q2
    walk_at "nxt"
    refine lcW_fn (inj := D.int) (out := D.bl) (fun x => decide (0 ≤ x ∧ x < p)) m ths (fun x hx m' Θ h => ?_) (fun _ => rfl) (by show _ ≤ 16777216; omega) ?_
    · walk_at "dx"
      exact ⟨x, p, rfl, h⟩
    walk_at "dx"
    refine ⟨_, bls_map _, ?_⟩
    rw [List.all_map, show (id ∘ fun x : Int => decide (0 ≤ x ∧ x < p)) = fun x => decide (0 ≤ x ∧ x < p) from rfl]
    cases hb : ths.all (fun x => decide (0 ≤ x ∧ x < p)) with
    | false =>
      rw [hb, if_pos rfl] at q1
      rw [if_pos rfl]
      exact q1 _ rfl
    | true =>
      rw [hb, if_neg (by decide)] at q1 q2
      rw [if_neg (by decide)]
      subst h1
      walk_at "dx"
      by_cases e3 : P.length = rounds
      · rw [if_neg (by omega)]
        rw [if_neg (by omega)] at q2
        exact q2 rfl
      · rw [if_pos (by omega)]
        rw [if_pos e3] at q1
        exact q1 _ rfl
  · rw [if_pos (by omega)]
    rw [if_pos e1] at q1
    exact q1 _ rfl
/-! ### the asker's turn and the honest answerer -/
def ptD : Option (List Int × List Int) → D
  | none => .non
  | some x => .lst [.lst (x.1.map D.int), .lst (x.2.map D.int)]
def prF (p : Int) (rp cp : List Int) (ks : Nat) (pts : Option (List Int × List Int)) (cls : Option (List Int)) : List (String × D) :=
  [("p", .int p), ("row_point", .lst (rp.map D.int)), ("column_point", .lst (cp.map D.int)), ("sums", .hnd ks), ("points", ptD pts), ("claims", onL cls)]
def paF (p : Int) (f g : List Int) : List (String × D) := [("p", .int p), ("first", .lst (f.map D.int)), ("second", .lst (g.map D.int))]
section
variable {p scl : Int} {rp cp degs f g : List Int} {ks j : Nat} {pts : Option (List Int × List Int)} {cls sent : Option (List Int)}
theorem lkP_p : List.lookup "p" (prF p rp cp ks pts cls) = some (.int p) := rfl
theorem lkP_rp : List.lookup "row_point" (prF p rp cp ks pts cls) = some (.lst (rp.map D.int)) := rfl
theorem lkP_cp : List.lookup "column_point" (prF p rp cp ks pts cls) = some (.lst (cp.map D.int)) := rfl
theorem lkP_sums : List.lookup "sums" (prF p rp cp ks pts cls) = some (.hnd ks) := rfl
theorem lkP_pts : List.lookup "points" (prF p rp cp ks pts cls) = some (ptD pts) := rfl
theorem lkP_cls : List.lookup "claims" (prF p rp cp ks pts cls) = some (onL cls) := rfl
theorem lkPA_p : List.lookup "p" (paF p f g) = some (.int p) := rfl
theorem lkPA_f : List.lookup "first" (paF p f g) = some (.lst (f.map D.int)) := rfl
theorem lkPA_g : List.lookup "second" (paF p f g) = some (.lst (g.map D.int)) := rfl
end
class Fl_ProductTurn (fl : String → List String) : Prop where
  p : (fl "p").contains "ProductTurn" = true
  rp : (fl "row_point").contains "ProductTurn" = true
  cp : (fl "column_point").contains "ProductTurn" = true
  sums : (fl "sums").contains "ProductTurn" = true
  pts : (fl "points").contains "ProductTurn" = true
  cls : (fl "claims").contains "ProductTurn" = true
  throws : (fl "throws").contains "SumAsker" = true
  claim : (fl "claim").contains "SumAsker" = true
class Fl_ProductAnswerer (fl : String → List String) : Prop where
  p : (fl "p").contains "ProductAnswerer" = true
  first : (fl "first").contains "ProductAnswerer" = true
  second : (fl "second").contains "ProductAnswerer" = true
set_option hygiene false in
local macro_rules | `(tactic| walk_at "mx") => `(tactic| (walk_at "dx"; (try simp only [ob, obs, onL, ptD, sentD, moI_ins, lkP_p, lkP_rp, lkP_cp, lkP_sums, lkP_pts, lkP_cls, lkPA_p, lkPA_f, lkPA_g, lkS_sent, lkS_throws, lkS_claim, Fl_ProductTurn.p, Fl_ProductTurn.rp, Fl_ProductTurn.cp, Fl_ProductTurn.sums, Fl_ProductTurn.pts, Fl_ProductTurn.cls, Fl_ProductTurn.throws, Fl_ProductTurn.claim, Fl_ProductAnswerer.p, Fl_ProductAnswerer.first, Fl_ProductAnswerer.second, exists_eq_left', Option.some.injEq, true_and, and_true])))
set_option hygiene false in
local macro_rules | `(tactic| walk_at "mg") => `(tactic| (walk_at "dx"; (try simp only [ob, g1, g2, onL, ptD, moI_ins, lkP_p, lkP_rp, lkP_cp, lkP_sums, lkP_pts, lkP_cls, lkPA_p, lkPA_f, lkPA_g, lkS_sent, lkS_throws, lkS_claim, Fl_ProductTurn.p, Fl_ProductTurn.rp, Fl_ProductTurn.cp, Fl_ProductTurn.sums, Fl_ProductTurn.pts, Fl_ProductTurn.cls, Fl_ProductTurn.throws, Fl_ProductTurn.claim, Fl_ProductAnswerer.p, Fl_ProductAnswerer.first, Fl_ProductAnswerer.second, exists_eq_left', Option.some.injEq, true_and, and_true])))

def C_ProductTurn_init : DC := fun ds m Φ _ => ∃ (k : Nat) (p : Int) (a b c : Nat) (pt : List Int) (cl : Int), ds = [.hnd k, .int p, szD a b c, .lst (pt.map D.int), .int cl] ∧ m.M[k]? = some (.ins "ProductTurn" []) ∧ a ≤ pt.length ∧ b ≤ 1000 ∧
  Φ .non ⟨m.M.set k (.ins "ProductTurn" (prF p (pt.take a) (pt.drop a) m.M.length none none)) ++ [.ins "SumAsker" (askF p cl (List.replicate b 2) (m.M.length + 1) none), .lst []], m.s⟩
def W_ProductTurn_init (fl : String → List String) : DS := dSeq (dSetF (fl "p") "p" (dVar 1) (dVar 0)) (dSeq (dSetF (fl "row_point") "row_point" (dCB cList (dCons (dSl (dVar 3) (dpN) (dpS (dOp oIx (dVar 2) (dC (.int 0))))) (dNil))) (dVar 0)) (dSeq (dSetF (fl "column_point") "column_point" (dCB cList (dCons (dSl (dVar 3) (dpS (dOp oIx (dVar 2) (dC (.int 0)))) (dpN)) (dNil))) (dVar 0)) (dSeq (dSetF (fl "sums") "sums" (dMake 3 "SumAsker" C_SumAsker_init (dCons (dVar 1) (dCons (dVar 4) (dCons (dOp oRep (dLst (dCons (dC (.int 2)) (dNil))) (dOp oIx (dVar 2) (dC (.int 1)))) (dNil))))) (dVar 0)) (dSeq (dSetF (fl "points") "points" (dC .non) (dVar 0)) (dSetF (fl "claims") "claims" (dC .non) (dVar 0))))))
theorem rd_ProductTurn_init {fl : String → List String} (F : Fl_ProductTurn fl) : ∀ ds m Φ Ψ, ds.length = 5 → C_ProductTurn_init ds m Φ Ψ → W_ProductTurn_init fl { nx := fun _ m' => Φ .non m', rt := Φ } (fun _ => Ψ) (ds.map some ++ List.replicate (5 - ds.length) none) m := by
  intro ds m Φ Ψ _ h
  obtain ⟨k, p, a, b, c, pt, cl, rfl, ob, ha, hb, q⟩ := h
  have hk := getLt ob
  have g1 : ∀ o, (m.M.set k o)[k]? = some o := fun o => List.getElem?_set_self hk
  have g2 : ∀ o1 o2 : MO, (m.M.set k o1).set k o2 = m.M.set k o2 := fun o1 o2 => List.set_set ..
  change W_ProductTurn_init fl _ _ [some (.hnd k), some (.int p), some (szD a b c), some (.lst (pt.map D.int)), some (.int cl)] m
  unfold W_ProductTurn_init szD
  walk_at "stp"
  walk_at "mg"
  refine ⟨by decide, ?_⟩
  walk_at "nxt"
  refine ⟨.int (a : Nat), rfl, ?_⟩
  walk_at "mg"
  rw [cutT (by rw [List.length_map]; omega), ← List.map_take]
  refine ⟨by simp [putD], ?_⟩
  walk_at "nxt"
  refine ⟨.int (a : Nat), rfl, ?_⟩
  walk_at "mg"
  rw [cutR (by rw [List.length_map]; omega), ← List.map_drop]
  refine ⟨by simp [putD], ?_⟩
  obtain ⟨F5, hF5⟩ : ∃ F5, F5 = putD "column_point" (D.lst ((pt.drop a).map D.int)) (putD "row_point" (D.lst ((pt.take a).map D.int)) (putD "p" (D.int p) [])) := ⟨_, rfl⟩
  have e5 : F5 = [("p", .int p), ("row_point", .lst ((pt.take a).map D.int)), ("column_point", .lst ((pt.drop a).map D.int))] := by rw [hF5]; simp [putD]
  rw [← hF5]
  clear hF5
  obtain ⟨M1, hM1⟩ : ∃ M1, M1 = m.M.set k (.ins "ProductTurn" F5) := ⟨_, rfl⟩
  have M1l : M1.length = m.M.length := by rw [hM1, List.length_set]
  have o1 : M1[k]? = some (.ins "ProductTurn" F5) := by rw [hM1]; exact g1 _
  have k1' : k < M1.length := by rw [M1l]; exact hk
  rw [← hM1]
  walk_at "nxt"
  refine ⟨by decide, .int (b : Nat), rfl, ?_⟩
  unfold oRep
  dsimp only
  rw [Int.toNat_natCast]
  refine ⟨by show 1 * b ≤ 16777216; omega, by omega, by omega, ?_⟩
  rw [rep_flat]
  refine ⟨M1.length, p, cl, List.replicate b 2, rfl, app_len, ?_⟩
  rw [set_app]
  dsimp only
  have o3 : ∀ L, (M1 ++ L)[k]? = some (.ins "ProductTurn" F5) := fun L => by rw [List.getElem?_append_left k1']; exact o1
  rw [List.append_assoc, o3]
  simp only [moI_ins]
  refine ⟨trivial, F.sums, by rw [e5]; show 3 < 1000; decide, ?_⟩
  rw [List.set_append_left _ _ k1', hM1, List.set_set, List.length_append, List.length_set]
  obtain ⟨F6, hF6⟩ : ∃ F6, F6 = putD "sums" (.hnd m.M.length) F5 := ⟨_, rfl⟩
  have e6 : F6 = [("p", .int p), ("row_point", .lst ((pt.take a).map D.int)), ("column_point", .lst ((pt.drop a).map D.int)), ("sums", .hnd m.M.length)] := by rw [hF6, e5]; simp [putD]
  rw [← hF6]
  clear hF6
  have kx : ∀ fs L, k < (m.M.set k (MO.ins "ProductTurn" fs) ++ L).length := fun fs L => by rw [List.length_append, List.length_set]; omega
  have g1 : ∀ fs L, (m.M.set k (MO.ins "ProductTurn" fs) ++ L)[k]? = some (MO.ins "ProductTurn" fs) := fun fs L => by rw [List.getElem?_append_left (by rw [List.length_set]; exact hk)]; exact List.getElem?_set_self hk
  have g2 : ∀ fs L o, (m.M.set k (MO.ins "ProductTurn" fs) ++ L).set k o = m.M.set k o ++ L := fun fs L o => by rw [List.set_append_left _ _ (by rw [List.length_set]; exact hk), List.set_set]
  walk_at "nxt"
  walk_at "mg"
  refine ⟨by rw [e6]; show 4 < 1000; decide, ?_⟩
  walk_at "lst"
  walk_at "mg"
  refine ⟨by rw [e6]; simp [putD], ?_⟩
  have e9 : putD "claims" D.non (putD "points" D.non F6) = prF p (pt.take a) (pt.drop a) m.M.length none none := by
    rw [e6]
    simp [putD, prF, onL, ptD]
  rw [e9]
  exact q
/-- a turn of the asker -/
structure PtB (m : MM) (k ks j : Nat) (p cl : Int) (rp cp : List Int) (b : Nat) (ths : List Int) (sent : Option (List Int)) (pts : Option (List Int × List Int)) (cls : Option (List Int)) : Prop where
  ob : m.M[k]? = some (.ins "ProductTurn" (prF p rp cp ks pts cls))
  a : Ask m ks j p cl (List.replicate b 2) ths sent
def pairOk (v : List Int) (p cl : Int) : Bool := decide (v.length = 2) && (v.all (fun x => decide (0 ≤ x ∧ x < p)) && decide (gi v 0 * gi v 1 % p = cl))
def C_ProductTurn_accept_pair : DC := fun ds m Φ Ψ => ∃ (k ks j : Nat) (p cl : Int) (rp cp : List Int) (b : Nat) (ths : List Int) (sent : Option (List Int)) (pts : Option (List Int × List Int)) (cls : Option (List Int)) (v : List Int), ds = [.hnd k, .lst (v.map D.int)] ∧
  PtB m k ks j p cl rp cp b ths sent pts cls ∧ rp.length ≤ 1000 ∧ cp.length ≤ 1000 ∧ v.length ≤ 1000 ∧ ths.length = b ∧ cls = none ∧
  Φ (.bl (pairOk v p cl)) ⟨if pairOk v p cl = true then m.M.set k (.ins "ProductTurn" (prF p rp cp ks (some (rp ++ ths, ths ++ cp)) (some v))) else m.M, m.s⟩
def W_ProductTurn_accept_pair (fl : String → List String) : DS := dSeq (dIf (dOr (dNot (dB (dMeth [("SumAsker", C_SumAsker_is_done)] "is_done" 0 (dFld (fl "sums") "sums" (dVar 0)) dNil))) (dB (dOp oNotN (dFld (fl "claims") "claims" (dVar 0)) (dC .non)))) (dRaise "TalkError" ["step"] (dCons (dC (.str (PySem.Str.ofString "pair"))) (dNil))) (dNext)) (dSeq (dIf (dOr (dB (dOp oNe (dCB cLen (dCons (dVar 1) (dNil))) (dC (.int 2)))) (dNot (dB (dCB cAll (dCons (dLc (diList (dVar 1)) (dgName 3) (dYes) (dCall 2 C_is_number (dCons (dVar 3) (dCons (dFld (fl "p") "p" (dVar 0)) (dNil)))) [3]) (dNil)))))) (dRet (dC (.bl false))) (dNext)) (dSeq (dIf (dB (dOp oNe (dOp oMod (dOp oMul (dOp oIx (dVar 1) (dC (.int 0))) (dOp oIx (dVar 1) (dC (.int 1)))) (dFld (fl "p") "p" (dVar 0))) (dFld (fl "claim") "claim" (dFld (fl "sums") "sums" (dVar 0))))) (dRet (dC (.bl false))) (dNext)) (dSeq (dSet 2 (dFld (fl "throws") "throws" (dFld (fl "sums") "sums" (dVar 0)))) (dSeq (dSetF (fl "points") "points" (dLst (dCons (dOp oAdd (dFld (fl "row_point") "row_point" (dVar 0)) (dVar 2)) (dCons (dOp oAdd (dVar 2) (dFld (fl "column_point") "column_point" (dVar 0))) (dNil)))) (dVar 0)) (dSeq (dSetF (fl "claims") "claims" (dCB cList (dCons (dVar 1) (dNil))) (dVar 0)) (dRet (dC (.bl true))))))))
theorem rd_ProductTurn_accept_pair {fl : String → List String} (F : Fl_ProductTurn fl) : ∀ ds m Φ Ψ, ds.length = 2 → C_ProductTurn_accept_pair ds m Φ Ψ → W_ProductTurn_accept_pair fl { nx := fun _ m' => Φ .non m', rt := Φ } (fun _ => Ψ) (ds.map some ++ List.replicate (4 - ds.length) none) m := by
  intro ds m Φ Ψ _ h
  obtain ⟨k, ks, j, p, cl, rp, cp, b, ths, sent, pts, cls, v, rfl, T, hrp, hcp, hv, hb, rfl, q⟩ := h
  have ob := T.ob
  have obs := T.a.ob
  have th := T.a.th
  have hp := T.a.pm
  have hk := getLt ob
  change W_ProductTurn_accept_pair fl _ _ [some (.hnd k), some (.lst (v.map D.int)), none, none] m
  unfold W_ProductTurn_accept_pair
  walk_at "stp"
  walk_at "mx"
  refine ⟨rfl, ks, j, p, cl, _, ths, sent, rfl, T.a, ?_⟩
  rw [List.length_replicate, decide_eq_true hb]
  walk_at "mx"
  rw [if_neg (by decide)]
  walk_at "mx"
  walk_at "nxt"
  by_cases h2 : v.length = 2
  · rw [if_neg (by omega)]
    have bad : pairOk v p cl = false → Φ (.bl false) m := fun z => by
      rw [z, if_neg (by decide)] at q
      exact q
    refine lcW_fnM (inj := D.int) (out := D.bl) (fun x => decide (0 ≤ x ∧ x < p)) m v ?_ (fun _ => rfl) (by show _ ≤ 16777216; omega) ?_
    · intro x hx acc Θ hΘ
      have ob2 : (m.M ++ [MO.lst acc])[k]? = m.M[k]? := List.getElem?_append_left hk
      walk_at "mx"
      simp only [ob2, ob]
      walk_at "mx"
      exact ⟨x, p, rfl, hΘ⟩
    walk_at "dx"
    refine ⟨_, bls_map _, ?_⟩
    rw [List.all_map, show (id ∘ fun x : Int => decide (0 ≤ x ∧ x < p)) = fun x => decide (0 ≤ x ∧ x < p) from rfl]
    cases e2 : v.all fun x => decide (0 ≤ x ∧ x < p) with
    | false =>
      rw [if_pos rfl]
      exact bad (by unfold pairOk; rw [e2]; simp)
    | true =>
      rw [if_neg (by decide)]
      have vi : InP p v := fun x hx => of_decide_eq_true (List.all_eq_true.mp e2 x hx)
      have v0 : 0 ≤ gi v 0 ∧ gi v 0 < p := vi.gN (i := 0) (by omega)
      have hp2 := hp.2
      have hp1 := hp.1
      walk_at "nxt"
      refine ⟨_, atI_gi (by decide) (by rw [h2]; decide), _, atI_gi (by decide) (by rw [h2]; decide), ?_⟩
      walk_at "mx"
      refine ⟨mulL v0.1 (by omega), ?_⟩
      walk_at "mx"
      refine ⟨by omega, rfl, ?_⟩
      rw [show eqD (.int (gi v 0 * gi v 1 % p)) (.int cl) = decide (gi v 0 * gi v 1 % p = cl) from eqD_int]
      by_cases e3 : gi v 0 * gi v 1 % p = cl
      · rw [if_neg (by rw [decide_eq_true e3]; decide)]
        have ok : pairOk v p cl = true := by
          unfold pairOk
          rw [decide_eq_true h2, e2, decide_eq_true e3]
          rfl
        rw [ok, if_pos rfl] at q
        walk_at "nxt"
        walk_at "mx"
        walk_at "nxt"
        walk_at "mx"
        simp only [th, moL_lst]
        have tl := T.a.lt
        have td := T.a.ld
        rw [List.length_replicate] at tl td
        simp only [List.length_map]
        have g1 : ∀ o, (m.M.set k o)[k]? = some o := fun o => List.getElem?_set_self hk
        have g2 : ∀ o1 o2 : MO, (m.M.set k o1).set k o2 = m.M.set k o2 := fun o1 o2 => List.set_set ..
        rw [← List.map_append, ← List.map_append]
        refine ⟨by show _ ≤ 16777216; omega, by show _ ≤ 16777216; omega, by decide, (show (6 : Nat) < 1000 by decide), ?_⟩
        have e5 : putD "points" (D.lst [D.lst ((rp ++ ths).map D.int), D.lst ((ths ++ cp).map D.int)]) (prF p rp cp ks pts none) = prF p rp cp ks (some (rp ++ ths, ths ++ cp)) none := by
          simp [putD, prF, ptD]
        rw [e5]
        walk_at "nxt"
        walk_at "mg"
        refine ⟨(show (6 : Nat) < 1000 by decide), ?_⟩
        have e6 : putD "claims" (D.lst (v.map D.int)) (prF p rp cp ks (some (rp ++ ths, ths ++ cp)) none) = prF p rp cp ks (some (rp ++ ths, ths ++ cp)) (some v) := by
          simp [putD, prF, ptD, onL]
        rw [e6]
        walk_at "lst"
        exact q
      · rw [if_pos (by rw [decide_eq_false e3])]
        exact bad (by unfold pairOk; rw [decide_eq_false e3]; simp)
  · rw [if_pos (by omega)]
    have e : pairOk v p cl = false := by unfold pairOk; rw [decide_eq_false h2]; rfl
    rw [e, if_neg (by decide)] at q
    exact q
def secT (R y : List Int) (b : Nat) (p : Int) : List Int := (List.range (2 ^ b)).map fun k => (S (2 ^ y.length) fun j => gi (pointT y p) (j : Nat) * gi R ((k + j * 2 ^ b : Nat) : Int)) % p
def C_ProductAnswerer_init : DC := fun ds m Φ _ => ∃ (k : Nat) (p : Int) (L R : List Int) (a b c : Nat) (pt : List Int), ds = [.hnd k, .int p, .lst (L.map D.int), .lst (R.map D.int), szD a b c, .lst (pt.map D.int)] ∧ m.M[k]? = some (.ins "ProductAnswerer" []) ∧ PM p ∧ InP p L ∧ InP p R ∧ L.length = 2 ^ (a + b) ∧ R.length = 2 ^ (b + c) ∧
  a ≤ 6 ∧ b ≤ 6 ∧ c ≤ 6 ∧ pt.length = a + c ∧ Φ .non ⟨m.M.set k (.ins "ProductAnswerer" (paF p ((pt.take a).foldl (foldS p) L) (secT R (pt.drop a) b p))), m.s⟩
structure PaB (m : MM) (k : Nat) (p : Int) (f g : List Int) : Prop where
  ob : m.M[k]? = some (.ins "ProductAnswerer" (paF p f g))
  pm : PM p
  fi : InP p f
  gi_ : InP p g
  len : f.length = g.length
  l64 : f.length ≤ 4096
def C_ProductAnswerer_poly : DC := fun ds m Φ _ => ∃ (k : Nat) (p : Int) (f g : List Int), ds = [.hnd k] ∧ PaB m k p f g ∧ Φ (.lst ((joinP f g p).map D.int)) m
def C_ProductAnswerer_throw : DC := fun ds m Φ _ => ∃ (k : Nat) (p t : Int) (f g : List Int), ds = [.hnd k, .int t] ∧ PaB m k p f g ∧ Φ .non ⟨m.M.set k (.ins "ProductAnswerer" (paF p (foldS p f t) (foldS p g t))), m.s⟩
def C_ProductAnswerer_pair : DC := fun ds m Φ _ => ∃ (k : Nat) (p : Int) (f g : List Int), ds = [.hnd k] ∧ PaB m k p f g ∧ 0 < f.length ∧ Φ (.lst ([gi f 0 % p, gi g 0 % p].map D.int)) m
def W_ProductAnswerer_init (fl : String → List String) : DS := dSeq (dAsg (dVar 4) (dgTup [6, 7, 8])) (dSeq (dSetF (fl "p") "p" (dVar 1) (dVar 0)) (dSeq (dSetF (fl "first") "first" (dCB cList (dCons (dVar 2) (dNil))) (dVar 0)) (dSeq (dFor (diList (dSl (dVar 5) (dpN) (dpS (dVar 6)))) (dgName 9) (dSetF (fl "first") "first" (dCall 3 C_fold (dCons (dFld (fl "first") "first" (dVar 0)) (dCons (dVar 9) (dCons (dVar 1) (dNil))))) (dVar 0))) (dSeq (dSet 10 (dCall 2 C_point_table (dCons (dSl (dVar 5) (dpS (dVar 6)) (dpN)) (dCons (dVar 1) (dNil))))) (dSetF (fl "second") "second" (dLc (diRng1 (dCons (dOp oShl (dC (.int 1)) (dVar 7)) (dNil))) (dgName 11) (dYes) (dOp oMod (dCB cSum (dCons (dLc (diRng1 (dCons (dOp oShl (dC (.int 1)) (dVar 8)) (dNil))) (dgName 12) (dYes) (dOp oMul (dOp oIx (dVar 10) (dVar 12)) (dOp oIx (dVar 3) (dOp oAdd (dVar 11) (dOp oShl (dVar 12) (dVar 7))))) [12]) (dNil))) (dVar 1)) [11]) (dVar 0))))))
def W_ProductAnswerer_poly (fl : String → List String) : DS := dSeq (dSet 1 (dLstM (dNil))) (dSeq (dFor (diRng1 (dCons (dC (.int 3)) (dNil))) (dgName 2) (dSeq (dSet 3 (dCall 3 C_fold (dCons (dFld (fl "first") "first" (dVar 0)) (dCons (dVar 2) (dCons (dFld (fl "p") "p" (dVar 0)) (dNil)))))) (dSeq (dSet 4 (dCall 3 C_fold (dCons (dFld (fl "second") "second" (dVar 0)) (dCons (dVar 2) (dCons (dFld (fl "p") "p" (dVar 0)) (dNil)))))) (dDrop (dMethL oApp (dVar 1) (dCons (dOp oMod (dCB cSum (dCons (dLc (diZip (dCons (dVar 3) (dCons (dVar 4) (dNil)))) (dgTup [5, 6]) (dYes) (dOp oMul (dVar 5) (dVar 6)) [5, 6]) (dNil))) (dFld (fl "p") "p" (dVar 0))) (dNil))))))) (dRet (dVar 1)))
def W_ProductAnswerer_throw (fl : String → List String) : DS := dSeq (dSetF (fl "first") "first" (dCall 3 C_fold (dCons (dFld (fl "first") "first" (dVar 0)) (dCons (dVar 1) (dCons (dFld (fl "p") "p" (dVar 0)) (dNil))))) (dVar 0)) (dSetF (fl "second") "second" (dCall 3 C_fold (dCons (dFld (fl "second") "second" (dVar 0)) (dCons (dVar 1) (dCons (dFld (fl "p") "p" (dVar 0)) (dNil))))) (dVar 0))
def W_ProductAnswerer_pair (fl : String → List String) : DS := dRet (dLst (dCons (dOp oMod (dOp oIx (dFld (fl "first") "first" (dVar 0)) (dC (.int 0))) (dFld (fl "p") "p" (dVar 0))) (dCons (dOp oMod (dOp oIx (dFld (fl "second") "second" (dVar 0)) (dC (.int 0))) (dFld (fl "p") "p" (dVar 0))) (dNil))))
theorem zip_ints : ∀ {xs ys : List Int}, xs.length = ys.length → zipD (xs.map D.int) (ys.map D.int) = (List.range xs.length).map fun k : Nat => D.tup [.int (gi xs (k : Nat)), .int (gi ys (k : Nat))]
  | [], [], _ => rfl
  | x :: xs, y :: ys, h => by
    rw [List.length_cons, List.length_cons] at h
    have ih := zip_ints (xs := xs) (ys := ys) (by omega)
    rw [List.length_cons, List.range_succ_eq_map]
    show D.tup [.int x, .int y] :: zipD (xs.map D.int) (ys.map D.int) = (D.tup [.int (gi (x :: xs) ((0 : Nat) : Int)), .int (gi (y :: ys) ((0 : Nat) : Int))]) :: ((List.range xs.length).map Nat.succ).map _
    rw [ih, List.map_map]
    refine List.cons_eq_cons.mpr ⟨?_, List.map_congr_left fun k _ => ?_⟩
    · rw [gi_nat, gi_nat]
      rfl
    · show _ = D.tup [.int (gi (x :: xs) ((k + 1 : Nat) : Int)), .int (gi (y :: ys) ((k + 1 : Nat) : Int))]
      rw [gi_nat, gi_nat, gi_nat, gi_nat]
      rfl
theorem rd_ProductAnswerer_init {fl : String → List String} (F : Fl_ProductAnswerer fl) : ∀ ds m Φ Ψ, ds.length = 6 → C_ProductAnswerer_init ds m Φ Ψ → W_ProductAnswerer_init fl { nx := fun _ m' => Φ .non m', rt := Φ } (fun _ => Ψ) (ds.map some ++ List.replicate (13 - ds.length) none) m := by
  intro ds m Φ Ψ _ h
  obtain ⟨k, p, L, R, a, b, c, pt, rfl, ob, hp, hL, hR, lL, lR, ha, hb, hc, lp, q⟩ := h
  have hp1 := hp.1
  have hp2 := hp.2
  obtain ⟨a64, a1⟩ := pow6 ha
  obtain ⟨b64, b1⟩ := pow6 hb
  obtain ⟨c64, c1⟩ := pow6 hc
  have hk := getLt ob
  have g1 : ∀ o, (m.M.set k o)[k]? = some o := fun o => List.getElem?_set_self hk
  have g2 : ∀ o1 o2 : MO, (m.M.set k o1).set k o2 = m.M.set k o2 := fun o1 o2 => List.set_set ..
  change W_ProductAnswerer_init fl _ _ [some (.hnd k), some (.int p), some (.lst (L.map D.int)), some (.lst (R.map D.int)), some (szD a b c), some (.lst (pt.map D.int)), none, none, none, none, none, none, none] m
  unfold W_ProductAnswerer_init szD
  walk_at "stp"
  walk_at "nxt"
  walk_at "mg"
  refine ⟨by decide, ?_⟩
  walk_at "nxt"
  walk_at "mg"
  refine ⟨by simp [putD], ?_⟩
  walk_at "nxt"
  rw [cutT (by rw [List.length_map]; omega), ← List.map_take]
  have e0 : putD "first" (D.lst (List.map D.int L)) (putD "p" (D.int p) []) = [("p", .int p), ("first", .lst (L.map D.int))] := by simp [putD]
  rw [e0]
  have tl : (pt.take a).length = a := by rw [List.length_take]; omega
  refine forW_map (inj := D.int) (fun r ρ m' => ∃ (f : List Int) (v9 : Option D), InP p f ∧ f.length = 2 ^ (r.length + b) ∧ r.length ≤ a ∧ r.foldl (foldS p) f = (pt.take a).foldl (foldS p) L ∧ ρ = [some (.hnd k), some (.int p), some (.lst (L.map D.int)), some (.lst (R.map D.int)), some (szD a b c), some (.lst (pt.map D.int)), some (.int (a : Nat)), some (.int (b : Nat)), some (.int (c : Nat)), v9, none, none, none] ∧
    m' = ⟨m.M.set k (.ins "ProductAnswerer" [("p", .int p), ("first", .lst (f.map D.int))]), m.s⟩) ?_ ?_ (pt.take a) _ _ ⟨L, _, hL, by rw [tl]; exact lL, by omega, rfl, rfl, rfl⟩
  · rintro x r kk hkk ρ m' ⟨f, v9, fi, fl_, ra, ff, rfl, rfl⟩
    clear h1
    rw [List.length_cons] at fl_ ra
    have f12 : f.length ≤ 2 ^ 12 := by rw [fl_]; exact Nat.pow_le_pow_right (by decide) (by omega)
    have e12 : (2 : Nat) ^ 12 = 4096 := by decide
    walk_at "mg"
    refine ⟨_, rfl, f, x, p, rfl, hp, fi, by omega, ?_⟩
    walk_at "mg"
    refine ⟨(show (2 : Nat) < 1000 by decide), hkk _ _ ⟨foldS p f x, _, foldS_in hp1, ?_, by omega, ff, rfl, ?_⟩⟩
    · rw [foldS_len, fl_, show r.length + 1 + b = (r.length + b) + 1 by omega, Nat.pow_succ]
      omega
    · simp [putD]
  · rintro ρ m' ⟨f, v9, fi, fl_, ra, ff, rfl, rfl⟩
    have ff : f = (pt.take a).foldl (foldS p) L := ff
    subst h1
    dsimp only
    refine dSeq_k fun k1 h1 => ?_
    walk_at "mg"
    rw [cutR (by rw [List.length_map]; omega), ← List.map_drop]
    have dl : (pt.drop a).length = c := by rw [List.length_drop]; omega
    refine ⟨pt.drop a, p, rfl, hp, by omega, ?_⟩
    subst h1
    walk_at "mg"
    rw [shl1]
    refine ⟨cpow_ok (by omega), ⟨by omega, by omega⟩, ?_⟩
    rw [Int.toNat_natCast, rngD0]
    have pl : (pointT (pt.drop a) p).length = 2 ^ c := by rw [pointT_len, dl]
    have pin := pointT_in (pt := pt.drop a) hp1
    refine lcW_fn (inj := fun i : Nat => D.int (i : Nat)) (out := D.int) (fun k : Nat => (S (2 ^ c) fun j => gi (pointT (pt.drop a) p) (j : Nat) * gi R ((k + j * 2 ^ b : Nat) : Int)) % p) _ (List.range (2 ^ b)) ?_ (fun _ => rfl) (by rw [List.length_range]; show _ ≤ 16777216; omega) ?_
    · intro k' hk' m2 Θ hΘ
      have hk' := List.mem_range.mp hk'
      walk_at "mg"
      rw [shl1]
      refine ⟨cpow_ok (by omega), ⟨by omega, by omega⟩, ?_⟩
      rw [Int.toNat_natCast, rngD0]
      refine lcW_fn (inj := fun i : Nat => D.int (i : Nat)) (out := D.int) (fun j : Nat => gi (pointT (pt.drop a) p) (j : Nat) * gi R ((k' + j * 2 ^ b : Nat) : Int)) _ (List.range (2 ^ c)) ?_ (fun _ => rfl) (by rw [List.length_range]; show _ ≤ 16777216; omega) ?_
      · intro j hj m3 Θ2 hΘ2
        have hj := List.mem_range.mp hj
        have x2 := ix2 hk' hj
        have g3 := pin.gN (i := j) (by omega)
        walk_at "dx"
        refine ⟨_, atI_gi (by omega) (by omega), ?_⟩
        rw [shlN]
        refine ⟨cpowN (by omega) (by omega), _, by rw [show ((k' : Nat) : Int) + ((j * 2 ^ b : Nat) : Int) = ((k' + j * 2 ^ b : Nat) : Int) by omega]; exact atI_gi (by omega) (by omega), ?_⟩
        walk_at "dx"
        exact ⟨mulL g3.1 (by omega), hΘ2⟩
      walk_at "dx"
      refine ⟨_, ints_map _, ?_⟩
      walk_at "dx"
      rw [sum_S]
      exact ⟨by omega, hΘ⟩
    walk_at "mg"
    refine ⟨(show (2 : Nat) < 1000 by decide), ?_⟩
    have e3 : putD "second" (D.lst (((List.range (2 ^ b)).map fun k : Nat => (S (2 ^ c) fun j => gi (pointT (pt.drop a) p) (j : Nat) * gi R ((k + j * 2 ^ b : Nat) : Int)) % p).map D.int)) [("p", D.int p), ("first", D.lst (f.map D.int))] = paF p f (secT R (pt.drop a) b p) := by
      unfold secT
      rw [dl]
      simp [putD, paF]
    rw [e3, ff]
    exact q
theorem rd_ProductAnswerer_poly {fl : String → List String} (F : Fl_ProductAnswerer fl) : ∀ ds m Φ Ψ, ds.length = 1 → C_ProductAnswerer_poly ds m Φ Ψ → W_ProductAnswerer_poly fl { nx := fun _ m' => retQ m Φ .non m', rt := retQ m Φ } (fun _ => retX m Ψ) (ds.map some ++ List.replicate (7 - ds.length) none) m := by
  intro ds m Φ Ψ _ h
  obtain ⟨k, p, f, g, rfl, T, q⟩ := h
  have ob := T.ob
  have obs := ob
  have hp := T.pm
  have hp1 := hp.1
  have hp2 := hp.2
  have hk := getLt ob
  change W_ProductAnswerer_poly fl _ _ [some (.hnd k), none, none, none, none, none, none] m
  unfold W_ProductAnswerer_poly
  walk_at "stp"
  refine ⟨by decide, ?_⟩
  walk_at "nxt"
  refine ⟨⟨by decide, by decide⟩, ?_⟩
  rw [rngD0, show ((3 : Int)).toNat = 3 from rfl]
  have fi := T.fi
  have gi_ := T.gi_
  have ln := T.len
  have l64 := T.l64
  have obA := fun L => obApp ob L
  refine forW_nat (fun i ρ m' => ∃ (v2 v3 v4 v5 v6 : Option D), ρ = [some (.hnd k), some (.hnd m.M.length), v2, v3, v4, v5, v6] ∧ m' = ⟨m.M ++ [MO.lst (((List.range i).map fun t : Nat => (((List.range (foldS p f (t : Nat)).length).map fun k : Nat => gi (foldS p f (t : Nat)) (k : Nat) * gi (foldS p g (t : Nat)) (k : Nat)).sum) % p).map D.int)], m.s⟩) ?_ ?_ ⟨_, _, _, _, _, rfl, rfl⟩
  · rintro i kk hi hkk ρ m' ⟨v2, v3, v4, v5, v6, rfl, rfl⟩
    clear h1
    walk_at "stp"
    simp only [obA, moI_ins]
    walk_at "mx"
    refine ⟨f, (i : Nat), p, rfl, hp, fi, by omega, ?_⟩
    walk_at "nxt"
    simp only [obA, moI_ins]
    walk_at "mx"
    refine ⟨g, (i : Nat), p, rfl, hp, gi_, by omega, ?_⟩
    walk_at "lst"
    have fl1 := foldS_len (p := p) (x := (i : Nat)) (t := f)
    have fl2 := foldS_len (p := p) (x := (i : Nat)) (t := g)
    have fi1 := foldS_in (p := p) (x := (i : Nat)) hp1 (t := f)
    have fi2 := foldS_in (p := p) (x := (i : Nat)) hp1 (t := g)
    rw [zip_ints (by omega)]
    refine lcW_fn (inj := fun k : Nat => D.tup [.int (gi (foldS p f (i : Nat)) (k : Nat)), .int (gi (foldS p g (i : Nat)) (k : Nat))]) (out := D.int) (fun k : Nat => gi (foldS p f (i : Nat)) (k : Nat) * gi (foldS p g (i : Nat)) (k : Nat)) _ (List.range (foldS p f (i : Nat)).length) ?_ (fun _ => rfl) (by rw [List.length_range]; show _ ≤ 16777216; omega) ?_
    · intro j hj m2 Θ hΘ
      have hj := List.mem_range.mp hj
      walk_at "dx"
      have := fi1.gN (i := j) (by omega)
      exact ⟨mulL this.1 (by omega), hΘ⟩
    walk_at "dx"
    refine ⟨_, ints_map _, ?_⟩
    simp only [obA, moI_ins]
    walk_at "mx"
    walk_at "dx"
    refine ⟨by omega, by rw [List.length_range]; show i < 16777216; omega, ?_⟩
    refine hkk _ _ ⟨_, _, _, _, _, rfl, ?_⟩
    rw [List.range_succ, List.map_append, List.map_append]
    rfl
  · rintro ρ m' ⟨v2, v3, v4, v5, v6, rfl, rfl⟩
    walk_at "lst"
    exact ⟨m.M, _, _, rfl, kept.rfl, .inr ⟨0, _, rfl, rfl, rfl⟩, clAll_ints _, q⟩
theorem rd_ProductAnswerer_throw {fl : String → List String} (F : Fl_ProductAnswerer fl) : ∀ ds m Φ Ψ, ds.length = 2 → C_ProductAnswerer_throw ds m Φ Ψ → W_ProductAnswerer_throw fl { nx := fun _ m' => Φ .non m', rt := Φ } (fun _ => Ψ) (ds.map some ++ List.replicate (2 - ds.length) none) m := by
  intro ds m Φ Ψ _ h
  obtain ⟨k, p, t, f, g, rfl, T, q⟩ := h
  have ob := T.ob
  have obs := ob
  have hp := T.pm
  have hp1 := hp.1
  have hp2 := hp.2
  have hk := getLt ob
  change W_ProductAnswerer_throw fl _ _ [some (.hnd k), some (.int t)] m
  unfold W_ProductAnswerer_throw
  walk_at "stp"
  walk_at "mx"
  have l64 := T.l64
  have ln := T.len
  refine ⟨f, t, p, rfl, hp, T.fi, by omega, ?_⟩
  walk_at "mx"
  refine ⟨(show (3 : Nat) < 1000 by decide), ?_⟩
  have e1 : putD "first" (D.lst ((foldS p f t).map D.int)) (paF p f g) = paF p (foldS p f t) g := by simp [putD, paF]
  rw [e1]
  have g1 : ∀ o, (m.M.set k o)[k]? = some o := fun o => List.getElem?_set_self hk
  have g2 : ∀ o1 o2 : MO, (m.M.set k o1).set k o2 = m.M.set k o2 := fun o1 o2 => List.set_set ..
  subst h1
  walk_at "mg"
  refine ⟨g, t, p, rfl, hp, T.gi_, by omega, ?_⟩
  walk_at "mg"
  refine ⟨(show (3 : Nat) < 1000 by decide), ?_⟩
  have e2 : putD "second" (D.lst ((foldS p g t).map D.int)) (paF p (foldS p f t) g) = paF p (foldS p f t) (foldS p g t) := by simp [putD, paF]
  rw [e2]
  exact q
theorem rd_ProductAnswerer_pair {fl : String → List String} (F : Fl_ProductAnswerer fl) : ∀ ds m Φ Ψ, ds.length = 1 → C_ProductAnswerer_pair ds m Φ Ψ → W_ProductAnswerer_pair fl { nx := fun _ m' => Φ .non m', rt := Φ } (fun _ => Ψ) (ds.map some ++ List.replicate (1 - ds.length) none) m := by
  intro ds m Φ Ψ _ h
  obtain ⟨k, p, f, g, rfl, T, h0, q⟩ := h
  have ob := T.ob
  have obs := ob
  have hp := T.pm
  have hp1 := hp.1
  have hp2 := hp.2
  change W_ProductAnswerer_pair fl _ _ [some (.hnd k)] m
  unfold W_ProductAnswerer_pair
  walk_at "mx"
  have ln := T.len
  refine ⟨_, atI_gi (by decide) (by omega), ?_⟩
  walk_at "mx"
  refine ⟨by omega, _, atI_gi (by decide) (by omega), ?_⟩
  walk_at "mx"
  exact ⟨by omega, by decide, q⟩
/-! ### whole conversations -/
def pairD (P : List (List Int)) (v : List Int) : D := .tup [.lst (P.map intL), .lst (v.map D.int)]
/-- the rounds: the step that is refused, or the claim behind them -/
def askP (p : Int) : Nat → Int → List (List Int) → List Int → Sum Nat Int
  | i, cl, vs :: P, t :: ths => if decide (vs.length = 3) && (vs.all (fun x => decide (0 ≤ x ∧ x < p)) && decide (cornV vs p = cl)) then askP p (i + 1) (valV vs t p) P ths else .inl i
  | _, cl, _, _ => .inr cl
def stepD : Option (Sum Nat Unit) → D
  | none => .non
  | some (.inl i) => .int (i : Nat)
  | some (.inr _) => .str (PySem.Str.ofString "pair")
def askR (p cl : Int) (P : List (List Int)) (v ths : List Int) : Option (Sum Nat Unit) := match askP p 0 cl P ths with
  | .inl i => some (.inl i)
  | .inr c => if pairOk v p c = true then none else some (.inr ())
def C_ask_product : DC := fun ds m Φ _ => ∃ (k ks j : Nat) (p cl : Int) (rp cp ths : List Int) (P : List (List Int)) (v : List Int), ds = [.hnd k, .lst (P.map intL), .lst (v.map D.int), .lst (ths.map D.int)] ∧ PtB m k ks j p cl rp cp ths.length [] none none none ∧ rp.length ≤ 1000 ∧ cp.length ≤ 1000 ∧ v.length ≤ 1000 ∧ ths.length ≤ 100 ∧
  (∀ vs ∈ P, vs.length ≤ 1000) ∧ P.length = ths.length ∧ InP p ths ∧ 3 ≤ p ∧ (askR p cl P v ths ≠ none → ∀ m' : MM, m'.M.length = m.M.length → m'.s = m.s → (∀ i o, i ≠ k → i ≠ ks → i ≠ j → m.M[i]? = some o → m'.M[i]? = some o) → Φ (stepD (askR p cl P v ths)) m') ∧
  (askR p cl P v ths = none → ∀ m' : MM, m'.M.length = m.M.length → m'.s = m.s → (∀ i o, i ≠ k → i ≠ ks → i ≠ j → m.M[i]? = some o → m'.M[i]? = some o) → m'.M[k]? = some (.ins "ProductTurn" (prF p rp cp ks (some (rp ++ ths, ths ++ cp)) (some v))) → Φ .non m')
def W_ask_product (fl : String → List String) : DS := dSeq (dFor (diEnumerate (dCons (dVar 3) (dNil))) (dgTup [4, 5]) (dSeq (dIf (dNot (dB (dMeth [("SumAsker", C_SumAsker_accept)] "accept" 1 (dFld (fl "sums") "sums" (dVar 0)) (dCons (dOp oIx (dVar 1) (dVar 4)) (dNil))))) (dRet (dVar 4)) (dNext)) (dDrop (dMeth [("SumAsker", C_SumAsker_throw)] "throw" 1 (dFld (fl "sums") "sums" (dVar 0)) (dCons (dVar 5) (dNil)))))) (dRet (dIfE (dB (dMeth [("ProductTurn", C_ProductTurn_accept_pair)] "accept_pair" 1 (dVar 0) (dCons (dVar 2) (dNil)))) (dC .non) (dC (.str (PySem.Str.ofString "pair")))))
section
variable {m m' : MM} {k ks j b : Nat} {p cl : Int} {rp cp ths : List Int} {sent : Option (List Int)} {pts : Option (List Int × List Int)} {cls : Option (List Int)}
theorem PtB.keep (T : PtB m k ks j p cl rp cp b ths sent pts cls) (h1 : m'.M[k]? = m.M[k]?) (h2 : m'.M[ks]? = m.M[ks]?) (h3 : m'.M[j]? = m.M[j]?) : PtB m' k ks j p cl rp cp b ths sent pts cls :=
  ⟨by rw [h1]; exact T.ob, ⟨by rw [h2]; exact T.a.ob, by rw [h3]; exact T.a.th, T.a.pm, T.a.pr, T.a.lt, T.a.ld, T.a.se⟩⟩
theorem PtB.ne1 (T : PtB m k ks j p cl rp cp b ths sent pts cls) : ks ≠ k := ne_obj T.a.ob T.ob (ins_ne (by decide))
theorem PtB.ne2 (T : PtB m k ks j p cl rp cp b ths sent pts cls) : ks ≠ j := ne_obj T.a.ob T.a.th lst_ne
theorem PtB.ne3 (T : PtB m k ks j p cl rp cp b ths sent pts cls) : j ≠ k := fun e => ne_obj T.ob T.a.th lst_ne e.symm
theorem PtB.sets {S : List Int} (T : PtB m k ks j p cl rp cp b ths none pts cls) (hS : InP p S) (h0 : 0 < S.length) (h1 : S.length ≤ 1000) (h2 : (S.length : Int) ≤ p) :
    PtB ⟨m.M.set ks (.ins "SumAsker" (askF p cl (List.replicate b 2) j (some S))), m.s⟩ k ks j p cl rp cp b ths (some S) pts cls := by
  refine ⟨?_, ⟨List.getElem?_set_self (getLt T.a.ob), ?_, T.a.pm, T.a.pr, T.a.lt, T.a.ld, fun vs e => ?_⟩⟩
  · show (m.M.set ks _)[k]? = _
    rw [List.getElem?_set_ne T.ne1]
    exact T.ob
  · show (m.M.set ks _)[j]? = _
    rw [List.getElem?_set_ne T.ne2]
    exact T.a.th
  · cases e
    exact ⟨hS, h1, h2, h0⟩
theorem PtB.thr {c z : Int} (T : PtB m k ks j p cl rp cp b ths sent pts cls) (hl : ths.length < b) :
    PtB ⟨(m.M.set ks (.ins "SumAsker" (askF p c (List.replicate b 2) j none))).set j (.lst ((ths ++ [z]).map D.int)), m.s⟩ k ks j p c rp cp b (ths ++ [z]) none pts cls := by
  refine ⟨?_, ⟨?_, ?_, T.a.pm, T.a.pr, ?_, T.a.ld, fun vs e => by cases e⟩⟩
  · show ((m.M.set ks _).set j _)[k]? = _
    rw [List.getElem?_set_ne T.ne3, List.getElem?_set_ne T.ne1]
    exact T.ob
  · show ((m.M.set ks _).set j _)[ks]? = _
    rw [List.getElem?_set_ne (Ne.symm T.ne2)]
    exact List.getElem?_set_self (getLt T.a.ob)
  · show ((m.M.set ks _).set j _)[j]? = _
    exact List.getElem?_set_self (by rw [List.length_set]; exact getLt T.a.th)
  · rw [List.length_append, List.length_singleton, List.length_replicate]
    exact hl
end
theorem rd_ask_product {fl : String → List String} (F : Fl_ProductTurn fl) : ∀ ds m Φ Ψ, ds.length = 4 → C_ask_product ds m Φ Ψ → W_ask_product fl { nx := fun _ m' => Φ .non m', rt := Φ } (fun _ => Ψ) (ds.map some ++ List.replicate (6 - ds.length) none) m := by
  intro ds m Φ Ψ _ h
  obtain ⟨k, ks, j, p, cl, rp, cp, ths, P, v, rfl, T, hrp, hcp, hv, h100, hP, lP, ti, p3, q1, q2⟩ := h
  change W_ask_product fl _ _ [some (.hnd k), some (.lst (P.map intL)), some (.lst (v.map D.int)), some (.lst (ths.map D.int)), none, none] m
  unfold W_ask_product
  walk_at "stp"
  have hkks := T.ne1
  have hkj := T.ne3
  refine forW_enum (inj := D.int) (fun i r ρ m' => ∃ (c : Int) (dn : List Int) (v4 v5 : Option D), PtB m' k ks j p c rp cp ths.length dn none none none ∧ dn ++ r = ths ∧ dn.length = i ∧ askP p 0 cl P ths = askP p i c (P.drop i) r ∧
    ρ = [some (.hnd k), some (.lst (P.map intL)), some (.lst (v.map D.int)), some (.lst (ths.map D.int)), v4, v5] ∧ m'.M.length = m.M.length ∧ m'.s = m.s ∧ (∀ i o, i ≠ k → i ≠ ks → i ≠ j → m.M[i]? = some o → m'.M[i]? = some o)) ?_ ?_ ths 0 _ _ ⟨cl, [], _, _, T, rfl, rfl, rfl, rfl, rfl, rfl, fun i o _ _ _ h => h⟩
  · rintro i t r kk hk ρ m' ⟨c, dn, v4, v5, T', ed, dl, ea, rfl, ml, ms, mo⟩
    clear h1
    have ob := T'.ob
    have obs := T'.a.ob
    walk_at "mx"
    walk_at "dx"
    have lt : dn.length < ths.length := by rw [← ed, List.length_append, List.length_cons]; omega
    have gP : P[i]? = some P[i] := List.getElem?_eq_getElem (by omega)
    have dP : P.drop i = P[i] :: P.drop (i + 1) := List.drop_eq_getElem_cons (by omega)
    have v1 := hP _ (List.getElem_mem (l := P) (n := i) (by omega))
    rw [dP] at ea
    generalize P[i] = vs at gP v1 ea
    have ea : askP p 0 cl P ths = if decide (vs.length = 3) && (vs.all (fun x => decide (0 ≤ x ∧ x < p)) && decide (cornV vs p = c)) then askP p (i + 1) (valV vs t p) (P.drop (i + 1)) r else .inl i := ea
    have ed3 : gi (List.replicate ths.length 2) (dn.length : Nat) = 2 := gi_rep lt
    have ec : askC vs p c (List.replicate ths.length 2) dn = (decide (vs.length = 3) && (vs.all (fun x => decide (0 ≤ x ∧ x < p)) && decide (cornV vs p = c))) := by
      unfold askC
      rw [ed3]
      rw [show decide ((vs.length : Int) = 2 + 1) = decide (vs.length = 3) from decide_eq_decide.mpr (by omega)]
    refine ⟨rfl, _, atI_map (by omega) (by rw [Int.toNat_natCast]; exact gP), ks, j, p, c, List.replicate ths.length 2, dn, none, vs, rfl, T'.a, v1, fun h => absurd ⟨by rw [List.length_replicate]; exact lt, rfl⟩ h, fun _ _ => ⟨by rw [ed3]; decide, ?_⟩⟩
    rw [ec]
    cases hB : (decide (vs.length = 3) && (vs.all (fun x => decide (0 ≤ x ∧ x < p)) && decide (cornV vs p = c))) with
    | false =>
      rw [hB, if_neg (by decide)] at ea
      dsimp only
      rw [if_pos rfl, if_neg (by decide)]
      unfold askR at q1
      rw [ea] at q1
      exact q1 (by simp) _ ml ms mo
    | true =>
      rw [hB, if_pos rfl] at ea
      rw [Bool.and_eq_true, Bool.and_eq_true] at hB
      have b1 : vs.length = 3 := of_decide_eq_true hB.1
      have b2 : InP p vs := fun x hx => of_decide_eq_true (List.all_eq_true.mp hB.2.1 x hx)
      have T2 := T'.sets b2 (by omega) (by omega) (by omega)
      have o1 := T2.ob
      have o2 := T2.a.ob
      have o1 : (m'.M.set ks (MO.ins "SumAsker" (askF p c (List.replicate ths.length 2) j (some vs))))[k]? = _ := o1
      have o2 : (m'.M.set ks (MO.ins "SumAsker" (askF p c (List.replicate ths.length 2) j (some vs))))[ks]? = _ := o2
      have t0 := ti t (by rw [← ed]; simp)
      dsimp only
      rw [if_neg (by decide), if_pos rfl]
      simp only [o1, o2, moI_ins, lkP_sums]
      refine ⟨F.sums, _, rfl, ?_⟩
      simp only [o2, moI_ins]
      walk_at "dx"
      refine ⟨rfl, ks, j, p, c, t, List.replicate ths.length 2, dn, some vs, rfl, T2.a, fun h => (by cases h), fun vs' e => ?_⟩
      cases e
      have T3 := T2.thr (c := valV vs t p) (z := t) lt
      simp only [List.set_set] at T3 ⊢
      refine ⟨t0.1, hk _ _ ⟨_, dn ++ [t], _, _, T3, by rw [List.append_assoc]; exact ed, by rw [List.length_append, List.length_singleton, dl], ea, rfl, ?_, ms, ?_⟩⟩
      · show ((m'.M.set _ _).set _ _).length = _
        rw [List.length_set, List.length_set]
        exact ml
      · intro i o h1 h2 h3 h
        show ((m'.M.set _ _).set _ _)[i]? = _
        rw [List.getElem?_set_ne (Ne.symm h3), List.getElem?_set_ne (Ne.symm h2)]
        exact mo i o h1 h2 h3 h
  · rintro i ρ m' ⟨c, dn, v4, v5, T', ed, dl, ea, rfl, ml, ms, mo⟩
    have ob := T'.ob
    have obs := T'.a.ob
    subst h1
    walk_at "mx"
    rw [List.append_nil] at ed
    subst ed
    have e0 : askP p i c (P.drop i) [] = .inr c := by
      cases P.drop i <;> rfl
    rw [e0] at ea
    unfold askR at q1 q2
    rw [ea] at q1 q2
    dsimp only at q1 q2
    refine ⟨rfl, k, ks, j, p, c, rp, cp, dn.length, dn, none, none, none, v, rfl, T', hrp, hcp, hv, rfl, rfl, ?_⟩
    cases hb : pairOk v p c with
    | true =>
      rw [hb, if_pos rfl] at q2
      exact q2 rfl _ (by show (m'.M.set _ _).length = _; rw [List.length_set]; exact ml) ms (fun i o h1 h2 h3 h => by show (m'.M.set _ _)[i]? = _; rw [List.getElem?_set_ne (Ne.symm h1)]; exact mo i o h1 h2 h3 h) (List.getElem?_set_self (getLt ob))
    | false =>
      rw [hb, if_neg (by decide)] at q1
      exact q1 (by simp) m' ml ms mo




/-! ### the judge of products -/
def PrP (p : Int) : Prop := 2 ≤ p ∧ p ≤ 2147483647 ∧ Pr p
def jpD (L R C : List Int) (a c : Nat) (ths : List Int) (P : List (List Int)) (v : List Int) (p : Int) : D :=
  match askR p (valAt C (ths.take (a + c)) p) P v (ths.drop (a + c)) with
  | some s => .tup [sD "refused", stepD (some s)]
  | none => if valAt L (ths.take a ++ ths.drop (a + c)) p = gi v 0 then (if valAt R (ths.drop (a + c) ++ (ths.take (a + c)).drop a) p = gi v 1 then .tup [sD "believed"] else .tup [sD "refused", sD "right"]) else .tup [sD "refused", sD "left"]
def matsOk (L R C : List Int) (a b c : Nat) (p : Int) : Bool := matOk L (a + b) p && (matOk R (b + c) p && matOk C (a + c) p)
/-- all that a judge of products may answer -/
def jpT (L R C : List Int) (a b c : Nat) (ths : List Int) (P : List (List Int)) (v : List Int) (p : Int) (m : MM) (Φ : D → MM → Prop) (Ψ : XP) : Prop :=
  (¬ PrP p → Ψ "FieldError" [("number", .int p)] m) ∧ (PrP p → (p = 2 → errP "CircuitError" "part" "modulus" Ψ m) ∧ (p ≠ 2 →
    (max3I ((a + b : Nat) : Int) ((b + c : Nat) : Int) ((a + c : Nat) : Int) > 12 → errP "SizeError" "limit" "matrix" Ψ m) ∧ (¬ max3I ((a + b : Nat) : Int) ((b + c : Nat) : Int) ((a + c : Nat) : Int) > 12 →
      (matsOk L R C a b c p = false → errP "CircuitError" "part" "matrix" Ψ m) ∧ (matsOk L R C a b c p = true →
        (∀ e, talkE (a + b + c) b ths P.length p = some e → errP "TalkError" "step" e Ψ m) ∧ (talkE (a + b + c) b ths P.length p = none → Φ (jpD L R C a c ths P v p) m)))))
def C_judge_product : DC := fun ds m Φ Ψ => ∃ (L R C : List Int) (a b c : Nat) (ths : List Int) (P : List (List Int)) (v : List Int) (p : Int), ds = [.lst (L.map D.int), .lst (R.map D.int), .lst (C.map D.int), szD a b c, .lst (ths.map D.int), pairD P v, .int p] ∧
  a ≤ 100 ∧ b ≤ 100 ∧ c ≤ 100 ∧ L.length ≤ 1000000 ∧ R.length ≤ 1000000 ∧ C.length ≤ 1000000 ∧ ths.length ≤ 1000 ∧ P.length ≤ 1000 ∧ v.length ≤ 1000 ∧ (∀ vs ∈ P, vs.length ≤ 1000) ∧ jpT L R C a b c ths P v p m Φ Ψ
theorem max3_le {a b c : Int} (h : ¬ max3I a b c > 12) : a ≤ 12 ∧ b ≤ 12 ∧ c ≤ 12 := by
  unfold max3I at h
  split at h <;> split at h <;> omega
theorem talkE_none {n r : Nat} {ths : List Int} {np : Nat} {p : Int} (h : talkE n r ths np p = none) : ths.length = n ∧ InP p ths ∧ np = r := by
  unfold talkE at h
  split at h
  · cases h
  · split at h
    · cases h
    · split at h
      · cases h
      · rename_i h1 h2 h3
        refine ⟨Classical.not_not.mp h1, fun x hx => ?_, Classical.not_not.mp h3⟩
        have e : ths.all (fun x => decide (0 ≤ x ∧ x < p)) = true := by
          cases z : ths.all (fun x => decide (0 ≤ x ∧ x < p)) with
          | true => rfl
          | false => exact absurd z h2
        exact of_decide_eq_true (List.all_eq_true.mp e x hx)
theorem stepD_pl {o : Option (Sum Nat Unit)} : plD (stepD o) = true := by
  cases o with
  | none => rfl
  | some s =>
    cases s with
    | inl i => rfl
    | inr u => exact (by decide +kernel : plD (sD "pair") = true)
/-- objects behind those of the entry -/
theorem behind {M M' : List MO} {n : Nat} (hl : M'.length = n) (h : ∀ (i : Nat) o, i < M.length → M[i]? = some o → M'[i]? = some o) (hn : M.length ≤ n) : ∃ L, M' = M ++ L := by
  refine ⟨M'.drop M.length, ?_⟩
  conv => lhs; rw [← List.take_append_drop M.length M']
  congr 1
  refine List.ext_getElem? fun i => ?_
  by_cases hi : i < M.length
  · rw [List.getElem?_take_of_lt hi]
    obtain ⟨o, ho⟩ : ∃ o, M[i]? = some o := ⟨_, List.getElem?_eq_getElem hi⟩
    rw [ho]
    exact h i o hi ho
  · rw [List.getElem?_eq_none (by rw [List.length_take]; omega), List.getElem?_eq_none (by omega)]
theorem pr_prim {p : Int} (h : Pr p) : Prim p := by
  obtain ⟨n, rfl⟩ := Int.eq_ofNat_of_zero_le (show 0 ≤ p by have := h.1; omega)
  have h2 : 2 ≤ n := by have := h.1; omega
  have key : ∀ d : Nat, d ∣ n → d * d ≤ n → d = 1 := fun d hd hdd => by
    by_cases e : 2 ≤ d
    · exact absurd (Int.emod_eq_zero_of_dvd (Int.natCast_dvd_natCast.mpr hd)) (h.2 (d : Nat) (by omega) (by rw [← Int.natCast_mul]; omega))
    · obtain ⟨e1, he⟩ := hd
      rcases Nat.lt_or_ge d 1 with z | z
      · have : d = 0 := by omega
        subst this
        rw [Nat.zero_mul] at he
        omega
      · omega
  refine prim_of h2 fun d hd => ?_
  obtain ⟨e, he⟩ := hd
  by_cases c : d * d ≤ n
  · exact .inl (key d ⟨e, he⟩ c)
  · right
    have ed : e ≤ d := by
      rcases Nat.lt_or_ge d e with z | z
      · have := Nat.mul_le_mul_left d (Nat.le_of_lt z)
        omega
      · exact z
    have := key e ⟨d, by rw [he, Nat.mul_comm]⟩ (by rw [he]; exact Nat.mul_le_mul_right e ed)
    rw [he, this, Nat.mul_one]
theorem askR_len {p cl : Int} {P : List (List Int)} {v ths : List Int} (h : askR p cl P v ths = none) : v.length = 2 := by
  unfold askR at h
  split at h
  · cases h
  · rename_i c _
    cases hb : pairOk v p c with
    | true =>
      unfold pairOk at hb
      rw [Bool.and_eq_true] at hb
      exact of_decide_eq_true hb.1
    | false =>
      rw [hb, if_neg (by decide)] at h
      cases h
def W_judge_product (fl : String → List String) : DS := dSeq (dAsg (dVar 3) (dgTup [7, 8, 9])) (dSeq (dDrop (dCall 2 C_check_sizes (dCons (dVar 3) (dCons (dVar 6) (dNil))))) (dSeq (dDrop (dCall 3 C_check_matrix (dCons (dVar 0) (dCons (dOp oAdd (dVar 7) (dVar 8)) (dCons (dVar 6) (dNil)))))) (dSeq (dDrop (dCall 3 C_check_matrix (dCons (dVar 1) (dCons (dOp oAdd (dVar 8) (dVar 9)) (dCons (dVar 6) (dNil)))))) (dSeq (dDrop (dCall 3 C_check_matrix (dCons (dVar 2) (dCons (dOp oAdd (dVar 7) (dVar 9)) (dCons (dVar 6) (dNil)))))) (dSeq (dDrop (dCall 5 C_check_talk (dCons (dCall 1 C_product_throws (dCons (dVar 3) (dNil))) (dCons (dVar 8) (dCons (dVar 4) (dCons (dOp oIx (dVar 5) (dC (.int 0))) (dCons (dVar 6) (dNil)))))))) (dSeq (dSet 10 (dSl (dVar 4) (dpN) (dpS (dOp oAdd (dVar 7) (dVar 9))))) (dSeq (dSet 11 (dMake 4 "ProductTurn" C_ProductTurn_init (dCons (dVar 6) (dCons (dVar 3) (dCons (dVar 10) (dCons (dCall 3 C_value_at (dCons (dVar 2) (dCons (dVar 10) (dCons (dVar 6) (dNil))))) (dNil))))))) (dSeq (dSet 12 (dCall 4 C_ask_product (dCons (dVar 11) (dCons (dOp oIx (dVar 5) (dC (.int 0))) (dCons (dOp oIx (dVar 5) (dC (.int 1))) (dCons (dSl (dVar 4) (dpS (dOp oAdd (dVar 7) (dVar 9))) (dpN)) (dNil))))))) (dSeq (dIf (dB (dOp oNotN (dVar 12) (dC .non))) (dRet (dTup (dCons (dC (.str (PySem.Str.ofString "refused"))) (dCons (dVar 12) (dNil))))) (dNext)) (dSeq (dFor (diEnumT (dCons (dTup (dCons (dVar 0) (dCons (dVar 1) (dNil)))) (dNil))) (dgTup [13, 14]) (dIf (dB (dOp oNe (dCall 3 C_value_at (dCons (dVar 14) (dCons (dOp oIx (dFld (fl "points") "points" (dVar 11)) (dVar 13)) (dCons (dVar 6) (dNil))))) (dOp oIx (dFld (fl "claims") "claims" (dVar 11)) (dVar 13)))) (dRet (dTup (dCons (dC (.str (PySem.Str.ofString "refused"))) (dCons (dOp oIx (dTup (dCons (dC (.str (PySem.Str.ofString "left"))) (dCons (dC (.str (PySem.Str.ofString "right"))) (dNil)))) (dVar 13)) (dNil))))) (dNext))) (dRet (dTup (dCons (dC (.str (PySem.Str.ofString "believed"))) (dNil))))))))))))))
theorem rd_judge_product {fl : String → List String} (F : Fl_ProductTurn fl) : ∀ ds m Φ Ψ, ds.length = 7 → C_judge_product ds m Φ Ψ → W_judge_product fl { nx := fun _ m' => retQ m Φ .non m', rt := retQ m Φ } (fun _ => retX m Ψ) (ds.map some ++ List.replicate (15 - ds.length) none) m := by
  intro ds m Φ Ψ _ h
  obtain ⟨L, R, C, a, b, c, ths, P, v, p, rfl, ha, hb, hc, hL, hR, hC, ht, hP, hv, hvs, q1, q2⟩ := h
  change W_judge_product fl _ _ [some (.lst (L.map D.int)), some (.lst (R.map D.int)), some (.lst (C.map D.int)), some (szD a b c), some (.lst (ths.map D.int)), some (pairD P v), some (.int p), none, none, none, none, none, none, none, none] m
  unfold W_judge_product szD
  walk_at "stp"
  walk_at "nxt"
  refine ⟨a, b, c, p, rfl, fun h => ⟨fun e => retX_id rfl ((q2 h).1 e), fun e => ⟨fun e2 => retX_id rfl (((q2 h).2 e).1 e2), fun e2 => ?_⟩⟩, fun h => retX_id rfl (q1 h)⟩
  have q3 := ((q2 h).2 e).2 e2
  clear q1 q2
  obtain ⟨x1, x2, x3⟩ := max3_le e2
  have p2 : 2 ≤ p := h.1
  have p3 : 3 ≤ p := by omega
  have pM : PM p := ⟨by omega, by have := h.2.1; omega⟩
  have bad : matsOk L R C a b c p = false → retX m Ψ "CircuitError" [("part", .str (PySem.Str.ofString "matrix"))] m := fun z => retX_id rfl (q3.1 z)
  walk_at "nxt"
  refine ⟨L, a + b, p, by rw [show ((a : Nat) : Int) + (b : Nat) = ((a + b : Nat) : Int) by omega], by omega, hL, fun z => bad (by unfold matsOk; rw [z]; rfl), fun g1 => ?_⟩
  walk_at "nxt"
  refine ⟨R, b + c, p, by rw [show ((b : Nat) : Int) + (c : Nat) = ((b + c : Nat) : Int) by omega], by omega, hR, fun z => bad (by unfold matsOk; rw [z]; simp), fun g2 => ?_⟩
  walk_at "nxt"
  refine ⟨C, a + c, p, by rw [show ((a : Nat) : Int) + (c : Nat) = ((a + c : Nat) : Int) by omega], by omega, hC, fun z => bad (by unfold matsOk; rw [z]; simp), fun g3 => ?_⟩
  have q4 := q3.2 (by unfold matsOk; rw [g1, g2, g3]; rfl)
  clear q3 bad
  obtain ⟨l1, i1⟩ := matOk_iff.mp g1
  obtain ⟨l2, i2⟩ := matOk_iff.mp g2
  obtain ⟨l3, i3⟩ := matOk_iff.mp g3
  walk_at "nxt"
  refine ⟨a, b, c, rfl, ?_⟩
  unfold pairD
  walk_at "dx"
  refine ⟨_, rfl, a + b + c, b, ths, P, p, rfl, ht, hP, fun e he => retX_id rfl (q4.1 e he), fun g4 => ?_⟩
  have q5 := q4.2 g4
  clear q4
  obtain ⟨tl, ti, pl⟩ := talkE_none g4
  walk_at "nxt"
  rw [show ((a : Nat) : Int) + (c : Nat) = ((a + c : Nat) : Int) by omega, cutT (by rw [List.length_map]; omega), ← List.map_take]
  walk_at "nxt"
  have tk : (ths.take (a + c)).length = a + c := by rw [List.length_take]; omega
  refine ⟨C, ths.take (a + c), p, rfl, pM, i3, by rw [tk]; exact l3, by omega, ?_⟩
  walk_at "dx"
  have tk' : (ths.take (a + c)).take a = ths.take a := by rw [List.take_take, Nat.min_eq_left (Nat.le_add_right a c)]
  have tkl : (ths.take a).length = a := by rw [List.length_take]; omega
  have tdl : ((ths.take (a + c)).drop a).length = c := by rw [List.length_drop, tk]; omega
  have dl : (ths.drop (a + c)).length = b := by rw [List.length_drop]; omega
  refine ⟨m.M.length, p, a, b, c, ths.take (a + c), valAt C (ths.take (a + c)) p, rfl, app_len, by omega, by omega, rfl, ?_⟩
  rw [set_app, tk']
  simp only [List.append_assoc, List.length_append, List.length_singleton, List.singleton_append]
  obtain ⟨M1, hM1⟩ : ∃ M1, M1 = m.M ++ [MO.ins "ProductTurn" (prF p (ths.take a) ((ths.take (a + c)).drop a) (m.M.length + 1) none none), MO.ins "SumAsker" (askF p (valAt C (ths.take (a + c)) p) (List.replicate b 2) (m.M.length + 1 + 1) none), MO.lst []] := ⟨_, rfl⟩
  rw [← hM1]
  have T : PtB ⟨M1, m.s⟩ m.M.length (m.M.length + 1) (m.M.length + 1 + 1) p (valAt C (ths.take (a + c)) p) (ths.take a) ((ths.take (a + c)).drop a) b [] none none none := by
    refine ⟨?_, ⟨?_, ?_, pM, pr_prim h.2.2, Nat.zero_le _, by rw [List.length_replicate]; omega, fun vs e => by cases e⟩⟩
    · rw [hM1]
      exact app_len2
    · rw [hM1]
      show (m.M ++ _)[m.M.length + 1]? = _
      rw [List.getElem?_append_right (by omega), show m.M.length + 1 - m.M.length = 1 by omega]
      rfl
    · rw [hM1]
      show (m.M ++ _)[m.M.length + 1 + 1]? = _
      rw [List.getElem?_append_right (by omega), show m.M.length + 1 + 1 - m.M.length = 2 by omega]
      rfl
  have M1l : M1.length = m.M.length + 3 := by rw [hM1, List.length_append]; rfl
  have M1o : ∀ (i : Nat) o, i < m.M.length → m.M[i]? = some o → M1[i]? = some o := fun i o hi h => by rw [hM1, List.getElem?_append_left hi]; exact h
  clear hM1
  walk_at "nxt"
  refine ⟨_, rfl, ?_⟩
  walk_at "dx"
  refine ⟨_, rfl, ?_⟩
  walk_at "dx"
  rw [show ((a : Nat) : Int) + (c : Nat) = ((a + c : Nat) : Int) by omega, cutR (by rw [List.length_map]; omega), ← List.map_drop]
  have fin : ∀ d (m' : MM), m'.M.length = M1.length → m'.s = m.s → (∀ i o, i ≠ m.M.length → i ≠ m.M.length + 1 → i ≠ m.M.length + 1 + 1 → M1[i]? = some o → m'.M[i]? = some o) → plD d = true → Φ d m → retQ m Φ d m' := fun d m' e1 e2 e3 hd hq => by
    obtain ⟨L', hL'⟩ := behind (M := m.M) (M' := m'.M) e1 (fun i o hi h => e3 i o (by omega) (by omega) (by omega) (M1o i o hi h)) (by omega)
    obtain ⟨M', s'⟩ := m'
    dsimp only at hL' e2
    subst hL' e2
    exact retQ_dead (clD_pl _ hd) hq
  refine ⟨m.M.length, m.M.length + 1, m.M.length + 1 + 1, p, valAt C (ths.take (a + c)) p, ths.take a, (ths.take (a + c)).drop a, ths.drop (a + c), P, v, rfl, by rw [dl]; exact T, by omega, by omega, hv, by omega, hvs, by omega, fun x hx => ti x (List.mem_of_mem_drop hx), p3, fun ne m' e1 e2 e3 => ?_, fun eq m' e1 e2 e3 e4 => ?_⟩
  · subst h1
    obtain ⟨st, hst⟩ : ∃ st, askR p (valAt C (ths.take (a + c)) p) P v (ths.drop (a + c)) = some st := Option.ne_none_iff_exists'.mp ne
    rw [hst]
    have q6 : Φ (.tup [sD "refused", stepD (some st)]) m := by
      unfold jpD at q5
      rw [hst] at q5
      exact q5
    have pl : plD (.tup [sD "refused", stepD (some st)]) = true := plDs_of fun d hd => by
      have : d = sD "refused" ∨ d = stepD (some st) := by simpa using hd
      rcases this with rfl | rfl
      · exact (by decide +kernel : plD (sD "refused") = true)
      · exact stepD_pl
    have fin2 := fin _ m' e1 e2 e3 pl q6
    cases st with
    | inl i =>
      walk_at "stp"
      exact ⟨by decide, fin2⟩
    | inr u =>
      walk_at "stp"
      exact ⟨by decide, fin2⟩
  · subst h1
    have e5 : jpD L R C a c ths P v p = if valAt L (ths.take a ++ ths.drop (a + c)) p = Dl.gi v 0 then (if valAt R (ths.drop (a + c) ++ (ths.take (a + c)).drop a) p = Dl.gi v 1 then .tup [sD "believed"] else .tup [sD "refused", sD "right"]) else .tup [sD "refused", sD "left"] := by
      unfold jpD
      rw [eq]
    rw [e5] at q5
    walk_at "stp"
    subst h1
    refine dSeq_k fun k1 h1 => ?_
    unfold diEnumT
    walk_at "dx"
    refine ⟨by decide, ?_⟩
    unfold enumD enumD enumD forW
    walk_at "dx"
    have lL : L.length = 2 ^ (ths.take a ++ ths.drop (a + c)).length := by rw [List.length_append, tkl, dl]; exact l1
    have lR : R.length = 2 ^ (ths.drop (a + c) ++ (ths.take (a + c)).drop a).length := by rw [List.length_append, tdl, dl]; exact l2
    simp only [e4, moI_ins, lkP_pts, lkP_cls, ptD, onL]
    refine ⟨F.pts, _, rfl, ?_⟩
    dsimp only
    refine ⟨_, rfl, L, _, p, rfl, pM, i1, lL, by rw [List.length_append, tkl, dl]; omega, ?_⟩
    simp only [e4, moI_ins, lkP_pts, lkP_cls, ptD, onL]
    refine ⟨F.cls, _, rfl, ?_⟩
    dsimp only
    have v2 := askR_len eq
    refine ⟨_, atI_gi (by decide) (by rw [v2]; decide), okE_int, okE_int, ?_⟩
    rw [eqD_int]
    by_cases c1 : valAt L (ths.take a ++ ths.drop (a + c)) p = Dl.gi v 0
    · rw [if_neg (by rw [show ((0 : Nat) : Int) = 0 from rfl, decide_eq_true c1]; decide)]
      rw [if_pos c1] at q5
      unfold forW
      walk_at "dx"
      simp only [e4, moI_ins, lkP_pts, lkP_cls, ptD, onL]
      refine ⟨F.pts, _, rfl, ?_⟩
      dsimp only
      refine ⟨_, rfl, R, _, p, rfl, pM, i2, lR, by rw [List.length_append, tdl, dl]; omega, ?_⟩
      simp only [e4, moI_ins, lkP_pts, lkP_cls, ptD, onL]
      refine ⟨F.cls, _, rfl, ?_⟩
      dsimp only
      refine ⟨_, atI_gi (by decide) (by rw [v2]; decide), okE_int, okE_int, ?_⟩
      rw [eqD_int]
      by_cases c2 : valAt R (ths.drop (a + c) ++ (ths.take (a + c)).drop a) p = Dl.gi v 1
      · rw [if_neg (by rw [show ((0 + 1 : Nat) : Int) = 1 from rfl, decide_eq_true c2]; decide)]
        rw [if_pos c2] at q5
        unfold forW
        subst h1
        walk_at "dx"
        exact ⟨by decide, fin _ m' e1 e2 e3 (by decide +kernel) q5⟩
      · rw [if_pos (by rw [show ((0 + 1 : Nat) : Int) = 1 from rfl, decide_eq_false c2])]
        rw [if_neg c2] at q5
        exact ⟨by decide, _, rfl, by decide, fin _ m' e1 e2 e3 (by decide +kernel) q5⟩
    · rw [if_pos (by rw [show ((0 : Nat) : Int) = 0 from rfl, decide_eq_false c1])]
      rw [if_neg c1] at q5
      exact ⟨by decide, _, rfl, by decide, fin _ m' e1 e2 e3 (by decide +kernel) q5⟩

/-! ### the plain law of honest products -/
theorem pfold_len {p : Int} : ∀ (r T : List Int) (n : Nat), T.length = 2 ^ (r.length + n) → (r.foldl (foldS p) T).length = 2 ^ n
  | [], _, n, h => by rw [List.length_nil, Nat.zero_add] at h; exact h
  | x :: r, T, n, h => by
    refine pfold_len r _ n ?_
    rw [foldS_len, h, List.length_cons, show r.length + 1 + n = r.length + n + 1 by omega, Nat.pow_succ]
    omega
theorem foldl_inP {p : Int} (hp : 2 ≤ p) : ∀ (r T : List Int), InP p T → InP p (r.foldl (foldS p) T)
  | [], _, h => h
  | x :: r, T, h => foldl_inP hp r _ (foldS_in hp)
theorem all_inP {p : Int} {xs : List Int} (h : InP p xs) : xs.all (fun x => decide (0 ≤ x ∧ x < p)) = true := List.all_eq_true.mpr fun x hx => decide_eq_true (h x hx)
/-! the two tables that are folded -/
/-- L at a row point, for middle k -/
theorem fst_at {p : Int} {L rp : List Int} {b k : Nat} (hL : L.length = 2 ^ (rp.length + b)) (hk : k < 2 ^ b) : Cg p (gi (rp.foldl (foldS p) L) (k : Nat)) (S (2 ^ rp.length) fun i => wt rp i * gi L ((i + k * 2 ^ rp.length : Nat) : Int)) := by
  have h1 := mle_app (p := p) rp (corn k b) L (by rw [corn_len]; exact hL)
  rw [mle_corn hk, mle_col rfl hk] at h1
  refine h1.symm.trans (.of_eq ?_)
  unfold mle
  refine S_congr _ fun i hi => ?_
  rw [colT_at hi, Nat.mul_comm k, Nat.add_comm i]
theorem snd_at {p : Int} {R y : List Int} {b k : Nat} (hk : k < 2 ^ b) : Cg p (gi (secT R y b p) (k : Nat)) (S (2 ^ y.length) fun j => wt y j * gi R ((k + j * 2 ^ b : Nat) : Int)) := by
  unfold secT
  rw [gi_range hk]
  refine Cg.mod.trans (S_cg _ fun j hj => ?_)
  exact Cg.mul (pointT_at hj) .refl
theorem secT_len {R y : List Int} {b : Nat} {p : Int} : (secT R y b p).length = 2 ^ b := by unfold secT; rw [List.length_map, List.length_range]
theorem secT_in {R y : List Int} {b : Nat} {p : Int} (hp : 2 ≤ p) : InP p (secT R y b p) := fun x hx => by
  obtain ⟨k, _, rfl⟩ := List.mem_map.mp hx
  exact mod_in hp
theorem snd_mle {p : Int} {R y z : List Int} {b : Nat} (hz : z.length = b) : Cg p (mle (secT R y b p) z) (mle R (z ++ y)) := by
  rw [mle_two hz]
  have e : Cg p (mle (secT R y b p) z) (S (2 ^ z.length) fun k => S (2 ^ y.length) fun j => wt z k * (wt y j * gi R ((k + j * 2 ^ b : Nat) : Int))) := by
    unfold mle
    refine S_cg _ fun k hk => ?_
    rw [hz] at hk
    refine (Cg.mul .refl (snd_at hk)).trans (.of_eq ?_)
    rw [S_mul]
  refine e.trans (.of_eq ?_)
  rw [S_swap2]
  refine S_congr _ fun j _ => ?_
  unfold mle
  rw [← S_mul]
  refine S_congr _ fun k hk => ?_
  rw [hz] at hk
  rw [colT_at hk, Nat.mul_comm j, Nat.add_comm k]
  grind
theorem mulT_at {L R : List Int} {a b c i j : Nat} {p : Int} (hi : i < 2 ^ a) (hj : j < 2 ^ c) : gi (mulT L R a b c p) ((i + j * 2 ^ a : Nat) : Int) = mulE L R a b p i j := by
  unfold mulT
  have h := ix2 (a := a) (b := c) hi hj
  rw [Nat.pow_add, Nat.mul_comm (2 ^ a)] at h
  rw [gi_range h, Nat.add_mul_mod_self_right, Nat.mod_eq_of_lt hi, Nat.add_mul_div_right _ _ (Nat.two_pow_pos a), Nat.div_eq_of_lt hi, Nat.zero_add]
theorem mulT_mle {L R rp cp : List Int} {b : Nat} {p : Int} (hL : L.length = 2 ^ (rp.length + b)) : Cg p (mle (mulT L R rp.length b cp.length p) (rp ++ cp)) (tot2 (rp.foldl (foldS p) L) (secT R cp b p) (2 ^ b)) := by
  rw [mle_two rfl]
  have e1 : Cg p (S (2 ^ cp.length) fun h => wt cp h * mle (colT (mulT L R rp.length b cp.length p) rp.length h) rp) (S (2 ^ cp.length) fun j => S (2 ^ rp.length) fun i => S (2 ^ b) fun k => wt cp j * (wt rp i * (gi L ((i + k * 2 ^ rp.length : Nat) : Int) * gi R ((k + j * 2 ^ b : Nat) : Int)))) := by
    refine S_cg _ fun j hj => ?_
    unfold mle
    rw [← S_mul]
    refine S_cg _ fun i hi => ?_
    rw [colT_at hi, show 2 ^ rp.length * j + i = i + j * 2 ^ rp.length by rw [Nat.mul_comm, Nat.add_comm], mulT_at hi hj]
    unfold mulE
    refine (Cg.mul .refl (Cg.mul .refl Cg.mod)).trans (.of_eq ?_)
    rw [← S_mul, ← S_mul]
  refine e1.trans ?_
  have e2 : Cg p (tot2 (rp.foldl (foldS p) L) (secT R cp b p) (2 ^ b)) (S (2 ^ b) fun k => S (2 ^ cp.length) fun j => S (2 ^ rp.length) fun i => wt cp j * (wt rp i * (gi L ((i + k * 2 ^ rp.length : Nat) : Int) * gi R ((k + j * 2 ^ b : Nat) : Int)))) := by
    unfold tot2
    refine S_cg _ fun k hk => ?_
    refine (Cg.mul (fst_at hL hk) (snd_at hk)).trans (.of_eq ?_)
    rw [← S_mul]
    refine S_congr _ fun j _ => ?_
    rw [← S_mulR]
    refine S_congr _ fun i _ => ?_
    grind
  refine Cg.trans (.of_eq ?_) e2.symm
  refine (S_congr _ fun j _ => S_swap2 _).trans ?_
  exact S_swap2 _



/-! ### draws from a state that the law has made itself: `[[], seed]` -/
def mixI (s : Int) : Int := (s * 48271 + 12345) % 2147483647
def drwI (s n : Int) : Int := mixI s / 64 % n
def C_drawE : DC := fun ds m Φ _ => ∃ (k : Nat) (s n : Int), ds = [.hnd k, .int n] ∧ 0 < n ∧ n < 2 ^ 30 ∧ 0 ≤ s ∧ s < 2 ^ 40 ∧ m.M[k]? = some (.lst [.lst [], .int s]) ∧ Φ (.int (drwI s n)) ⟨m.M.set k (.lst [.lst [], .int (mixI s)]), m.s⟩
def C_drawX : DC := fun ds m Φ Ψ => C_draw ds m Φ Ψ ∨ C_drawE ds m Φ Ψ
def C_drawOX : DC := fun ds m Φ Ψ => C_drawO ds m Φ Ψ ∨ C_drawE ds m Φ Ψ
theorem mixI_in (s : Int) : 0 ≤ mixI s ∧ mixI s < 2147483647 := ⟨Int.emod_nonneg _ (by decide), Int.emod_lt_of_pos _ (by decide)⟩
theorem drwI_in {s n : Int} (h : 0 < n) : 0 ≤ drwI s n ∧ drwI s n < n := ⟨Int.emod_nonneg _ (by omega), Int.emod_lt_of_pos _ h⟩
theorem rd_draw1E : ∀ ds m Φ Ψ, ds.length = 2 → C_drawE ds m Φ Ψ → W_draw1 { nx := fun _ m' => Φ .non m', rt := Φ } (fun _ => Ψ) (ds.map some ++ List.replicate (5 - ds.length) none) m := by
  intro ds m Φ Ψ _ h
  obtain ⟨k, s, n, rfl, hn, hn2, s0, s1, hk, q⟩ := h
  change W_draw1 _ _ [some (D.hnd k), some (D.int n), none, none, none] m
  unfold W_draw1
  walk_at "dx"
  simp only [hk, moL_lst]
  refine ⟨.lst [], rfl, ?_⟩
  refine ⟨fun c ρ m' => c = 0 ∧ ρ = [some (D.hnd k), some (D.int n), some (D.lst []), none, none] ∧ m' = m, ⟨0, rfl, rfl, rfl⟩, ?_⟩
  rintro c ρ m' ⟨rfl, rfl, rfl⟩
  walk_at "dx"
  simp only [hk, moL_lst, List.length_nil]
  rw [if_neg (by decide), if_neg (by decide)]
  refine ⟨_, rfl, ?_⟩
  walk_at "dx"
  simp only [hk, moL_lst]
  exact ⟨.inr (.inl ⟨by decide, by decide⟩), by decide, 1, rfl, ⟨by decide, by decide⟩, hn, q⟩
theorem rd_draw2E : ∀ ds m Φ Ψ, ds.length = 2 → C_drawE ds m Φ Ψ → W_draw2 { nx := fun _ m' => Φ .non m', rt := Φ } (fun _ => Ψ) (ds.map some ++ List.replicate (5 - ds.length) none) m := by
  intro ds m Φ Ψ hl h
  have h1 := rd_draw1E ds m Φ Ψ hl h
  obtain ⟨k, s, n, rfl, hn, hn2, s0, s1, hk, q⟩ := h
  change W_draw1 _ _ [some (D.hnd k), some (D.int n), none, none, none] m at h1
  change W_draw2 _ _ [some (D.hnd k), some (D.int n), none, none, none] m
  unfold W_draw2
  generalize W_draw1 = W at *
  walk_at "dx"
  rw [if_neg (by omega)]
  exact h1
theorem rd_draw2X : ∀ ds m Φ Ψ, ds.length = 2 → C_drawOX ds m Φ Ψ → W_draw2 { nx := fun _ m' => Φ .non m', rt := Φ } (fun _ => Ψ) (ds.map some ++ List.replicate (5 - ds.length) none) m := fun ds m Φ Ψ hl h => h.elim (rd_draw2 ds m Φ Ψ hl) (rd_draw2E ds m Φ Ψ hl)
section
variable {P : Program} {w : World} {K : PySem.W.Frag} {mg : Str → Option Value} {base : Heap} {x : Str} {lv : Nat} {ps : List Str}
theorem draw_sp {n0 : Nat} {vs : List V} {H : Hp} {Q : VK} {E : XK} (h : spOf K n0 C_draw vs H Q E) : spOf K n0 C_drawO vs H Q E := by
  obtain ⟨z, w0, ds, m, Φ, Ψ, h0, r, vl, xl, n, hds, hs, hn, hn2, q⟩ := h
  subst hds
  obtain ⟨v1, v2, rfl, ⟨⟨A, c, k⟩, hS, hk, rfl⟩, rfl⟩ := rep2 r
  have hk : k = 0 := hk
  subst hk
  obtain ⟨cells, seed, h1, l1⟩ := h0.opened hs hS
  have e1 : ((w0.add c).add A).th[m.M.length + 1]? = some A := by
    show (w0.th ++ [c] ++ [A])[m.M.length + 1]? = some A
    rw [← h0.len, List.append_assoc, List.getElem?_append_right (by omega)]; simp
  have e2 : ((w0.add c).add A).th[m.M.length]? = some c := by
    show (w0.th ++ [c] ++ [A])[m.M.length]? = some c
    rw [← h0.len, List.append_assoc, List.getElem?_append_right (Nat.le_refl _)]; simp
  have gA : (m.M ++ [MO.lst (cells.map D.int)] ++ [MO.lst [.hnd m.M.length, .int seed]])[m.M.length + 1]? = some (.lst [.hnd m.M.length, .int seed]) := by
    rw [List.append_assoc, List.getElem?_append_right (by omega)]; simp
  have gc : (m.M ++ [MO.lst (cells.map D.int)] ++ [MO.lst [.hnd m.M.length, .int seed]])[m.M.length]? = some (.lst (cells.map D.int)) := by
    rw [List.append_assoc, List.getElem?_append_right (Nat.le_refl _)]; simp
  refine ⟨z, (w0.add c).add A, [.hnd (m.M.length + 1), .int n], ⟨m.M ++ [.lst (cells.map D.int)] ++ [.lst [.hnd m.M.length, .int seed]], 2⟩, fun d m' => ∃ (r : Int) (cells' : List Int) (seed' : Int), d = .int r ∧ 0 ≤ r ∧ r < n ∧
    m' = ⟨m.M ++ [.lst (cells'.map D.int)] ++ [.lst [.hnd m.M.length, .int seed']], 2⟩, XF, h1, ⟨.ref A, _, rfl, ⟨A, rfl, e1⟩, .int n, [], rfl, rfl, rfl⟩, ?_, fun _ _ _ _ _ _ _ _ _ _ _ q => q.elim, m.M.length + 1, m.M.length, cells, seed, n, rfl, hn, hn2, gA, gc, by omega, fun r cells' seed' hr0 hr1 => ⟨r, cells', seed', rfl, hr0, hr1, ?_⟩⟩
  · rintro d m' w' H' v l h' rd ⟨r, cells', seed', rfl, hr0, hr1, rfl⟩
    have rd : v = .int r := rd
    subst rd
    have gA' : (m.M ++ [MO.lst (cells'.map D.int)] ++ [MO.lst [.hnd m.M.length, .int seed']])[m.M.length + 1]? = some (.lst [.hnd m.M.length, .int seed']) := by
      rw [List.append_assoc, List.getElem?_append_right (by omega)]; simp
    have gc' : (m.M ++ [MO.lst (cells'.map D.int)] ++ [MO.lst [.hnd m.M.length, .int seed']])[m.M.length]? = some (.lst (cells'.map D.int)) := by
      rw [List.append_assoc, List.getElem?_append_right (Nat.le_refl _)]; simp
    have f1 := l.th _ _ e1
    have f2 := l.th _ _ e2
    obtain ⟨xs, hA, v1, r1, rfl, ⟨c', rfl, ec⟩, v2, r2, rfl, e4, e3⟩ := h'.obj _ A _ f1 gA'
    have e4 : v2 = .int seed' := e4
    have e3 : r2 = [] := e3
    subst e4; subst e3
    rw [f2] at ec
    cases ec
    obtain ⟨ys, hc, ry⟩ := h'.obj _ c _ f2 gc'
    have ey := ints_ok (ints_map cells') ry
    subst ey
    have lall := l1.trans l
    have hS' : w'.S = some ⟨A, c, 0⟩ := lall.S _ hS
    have h3 := h'.closed (M0 := m.M) (S := ⟨A, c, 0⟩) (by show (m.M ++ _ ++ _).take _ = _; rw [List.append_assoc, List.take_left' rfl]) hS' h0.cls (fun a ha => by
      have ha : a ∈ [A, c] := ha
      simp only [List.mem_cons, List.not_mem_nil, or_false] at ha
      rcases ha with rfl | rfl
      · exact ⟨_, by omega, f1, _, gA', fun z => by cases z⟩
      · exact ⟨_, Nat.le_refl _, f2, _, gc', fun z => by cases z⟩) ⟨cells', seed', hA, hc⟩
    have em : (⟨m.M, 1⟩ : MM) = m := by rw [← hs]
    rw [em] at h3
    exact vl (.int r) m _ H' _ (Wd.le_cut lall (Nat.le_of_eq h0.len)) h3 rfl (q r hr0 hr1)
  · show (⟨_, 2⟩ : MM) = ⟨_, 2⟩
    congr 1
    rw [List.append_assoc, List.set_append_right _ _ (Nat.le_refl _), List.set_append_right _ _ (by omega), List.append_assoc]
    simp
theorem spOf.map {n0 : Nat} {C C' : DC} (h : ∀ ds m Φ Ψ, C ds m Φ Ψ → C' ds m Φ Ψ) {vs : List V} {H : Hp} {Q : VK} {E : XK} (z : spOf K n0 C vs H Q E) : spOf K n0 C' vs H Q E := by
  obtain ⟨l, w, ds, m, Φ, Ψ, a, b, c, d, e⟩ := z
  exact ⟨l, w, ds, m, Φ, Ψ, a, b, c, d, h _ _ _ _ e⟩
theorem draw_closeX (h : Ok P w K mg base x lv ps C_drawOX) : Ok P w K mg base x lv ps C_drawX := h.impV fun vs H Q E z => by
  obtain ⟨l, w, ds, m, Φ, Ψ, a, b, c, d, e⟩ := z
  rcases e with e | e
  · exact spOf.map (fun _ _ _ _ h => .inl h) (draw_sp ⟨l, w, ds, m, Φ, Ψ, a, b, c, d, e⟩)
  · exact ⟨l, w, ds, m, Φ, Ψ, a, b, c, d, .inr e⟩
def orC (C C' : DC) : DC := fun ds m Φ Ψ => C ds m Φ Ψ ∨ C' ds m Φ Ψ
theorem FnOk_or {n lv : Nat} {f : Addr} {fd : FuncData} {C C' : DC} (F : FnOk P w K mg base (L2.CX P w) lv f fd ps (spOf K n C)) (F' : FnOk P w K mg base (L2.CX P w) lv f fd ps (spOf K n C')) : FnOk P w K mg base (L2.CX P w) lv f fd ps (spOf K n (orC C C')) :=
  ⟨fun vs H Q E z => by
    obtain ⟨l, w, ds, m, Φ, Ψ, a, b, c, d, e⟩ := z
    rcases e with e | e
    · exact F.len vs H Q E ⟨l, w, ds, m, Φ, Ψ, a, b, c, d, e⟩
    · exact F'.len vs H Q E ⟨l, w, ds, m, Φ, Ψ, a, b, c, d, e⟩, fun A outer s H args us vs Q E hr he hb hv z => by
    obtain ⟨l, w, ds, m, Φ, Ψ, a, b, c, d, e⟩ := z
    rcases e with e | e
    · exact F.run A outer s H args us vs Q E hr he hb hv ⟨l, w, ds, m, Φ, Ψ, a, b, c, d, e⟩
    · exact F'.run A outer s H args us vs Q E hr he hb hv ⟨l, w, ds, m, Φ, Ψ, a, b, c, d, e⟩⟩
theorem Ok.orL {C C' : DC} (h : Ok P w K mg base x lv ps (orC C C')) : Ok P w K mg base x lv ps C := h.impV fun vs H Q E z => spOf.map (fun _ _ _ _ h => .inl h) z
theorem Ok.orR {C C' : DC} (h : Ok P w K mg base x lv ps (orC C C')) : Ok P w K mg base x lv ps C' := h.impV fun vs H Q E z => spOf.map (fun _ _ _ _ h => .inr h) z
theorem Ok.drawL (h : Ok P w K mg base x lv ps C_drawX) : Ok P w K mg base x lv ps C_draw := h.impV fun vs H Q E z => spOf.map (fun _ _ _ _ h => .inl h) z
end

/-! ### counting throws below 5 -/
/-- two different polynomials agree at few throws -/
theorem few_pol {p : Int} (P : Prim p) {N d : Nat} (hN : (N : Int) ≤ p) {f g : Int → Int} (hf : Pol p d f) (hg : Pol p d g) {z : Int} (hz : ¬ Cg p (f z) (g z)) (c : Nat → Bool) (hc : ∀ t, c t = true → Cg p (f (t : Nat)) (g (t : Nat))) : (List.range N).countP c ≤ d := by
  rcases Nat.lt_or_ge d ((List.range N).countP c) with h | h
  · exfalso
    rw [List.countP_eq_length_filter] at h
    refine hz (Pol.ext (p := p) (n := d) P hf hg (((List.range N).filter c).map fun t : Nat => (t : Int)) ?_ (by rw [List.length_map]; omega) (fun x hx => ?_) z)
    · rw [List.pairwise_map]
      refine List.Pairwise.imp_of_mem (R := fun a b => a ≠ b) (fun {s t} hs ht hst e => hst ?_) (List.nodup_range.filter _)
      have hs' := List.mem_range.mp (List.mem_filter.mp hs).1
      have ht' := List.mem_range.mp (List.mem_filter.mp ht).1
      have : Cg p (s : Int) (t : Int) := by
        have := Cg.add e (Cg.refl (a := (t : Int)))
        rw [Int.sub_add_cancel, Int.zero_add] at this
        exact this
      have := this.eq ⟨Int.natCast_nonneg s, by omega⟩ ⟨Int.natCast_nonneg t, by omega⟩
      omega
    · obtain ⟨t, ht, rfl⟩ := List.mem_map.mp hx
      exact hc t (List.mem_filter.mp ht).2
  · exact h
/-- two throws, of which the first may help for few, or the second for few -/
theorem two_throws {A : Nat → Bool} {B : Nat → Nat → Bool} {bel : Nat → Bool} {α β : Nat} (hA : (List.range 5).countP A ≤ α) (hB : ∀ t, t < 5 → (List.range 5).countP (B t) ≤ β) (h : ∀ i, i < 25 → bel i = true → A (i % 5) = true ∨ B (i % 5) (i / 5) = true) : (List.range 25).countP bel ≤ 5 * (α + β) := by
  have e : (List.range 25).Perm ((List.range 5).flatMap fun t => (List.range 5).map fun u => t + 5 * u) := by decide +kernel
  rw [e.countP_eq, List.countP_flatMap]
  have key : ∀ t, t < 5 → (((List.range 5).map fun u => t + 5 * u).countP bel) ≤ (if A t = true then 5 else 0) + β := fun t ht => by
    by_cases ha : A t = true
    · rw [if_pos ha]
      have := List.countP_le_length (p := bel) (l := (List.range 5).map fun u => t + 5 * u)
      rw [List.length_map, List.length_range] at this
      omega
    · rw [if_neg ha, Nat.zero_add, List.countP_map]
      refine Nat.le_trans (List.countP_mono_left fun u hu hb => ?_) (hB t ht)
      have hu := List.mem_range.mp hu
      rcases h (t + 5 * u) (by omega) hb with z | z
      · rw [show (t + 5 * u) % 5 = t by omega] at z
        exact absurd z ha
      · rw [show (t + 5 * u) % 5 = t by omega, show (t + 5 * u) / 5 = u by omega] at z
        exact z
  have sA : ∀ xs : List Nat, (∀ t ∈ xs, t < 5) → (xs.map (List.countP bel ∘ fun t => (List.range 5).map fun u => t + 5 * u)).sum ≤ 5 * xs.countP A + xs.length * β := by
    intro xs
    induction xs with
    | nil => intro _; simp
    | cons t xs ih =>
      intro hx
      have k := key t (hx t List.mem_cons_self)
      have i := ih fun u hu => hx u (List.mem_cons_of_mem _ hu)
      rw [List.map_cons, List.sum_cons, List.countP_cons, List.length_cons, Nat.add_mul, Nat.one_mul]
      show List.countP bel ((List.range 5).map fun u => t + 5 * u) + _ ≤ _
      split at k <;> rename_i ha
      · rw [if_pos ha]; omega
      · rw [if_neg ha]; omega
  have := sA (List.range 5) fun t ht => List.mem_range.mp ht
  rw [List.length_range] at this
  omega

end Dl
namespace K87
open PySem L2 Dl
local macro_rules | `(tactic| walk_at "dl") => `(tactic| try simp only [dSeq, dSet, dRaise_one, dRaise_two, dTryAs, dXf, dIsE, List.lookup_cons, List.lookup_nil, beq_self_eq_true, Bool.false_eq_true, if_false, dOp, dUn, dVar, dC, dCB, dCons, dNil, dRet, dRetN, dIf, dB, dAnd, dOr, dNot, dDrop, dNext, dMethL, dSetIx, dAndV, dOrV, dNotV, dBlV, dIfE, dLst, dTup, dLstM, dCall, dChain, dAsg, dgName, dgTup, bindD, asT, dFor, diList, diRng1, diRng2, diEnumerate, diZip, diReversed, dLc, dLcM, dYes, wipeD, dAug, dSl, dSlT, dpN, dpS,
  oI, oI0, oB0, oAdd, oNeg, oEq, oNe, oIx, oIsN, oNotN, isNon, oShl, oApp, oPop, oPopAt, cLen, cInt, cAbs, cSum, cMax2, cMin2, cList, cIsi, tyD, asL, asF, asK, moL_lst, ModC, DivC,
  List.getElem?_cons_zero, List.getElem?_cons_succ, List.set_cons_zero, List.set_cons_succ, List.getElem?_nil, List.length_cons, List.length_nil, List.length_map, Option.map_some, Option.bind_some, Option.isSome_some, if_true, true_and, and_true, MM.push])
local macro_rules | `(tactic| walk_at "dx") => `(tactic| try simp only [eq_self_iff_true, okE_int, okE_bl, okE_non, eqD_int, eqD_bl, kq_NoneType_int, kq_NoneType_bool, kq_NoneType_list, kq_NoneType_tuple, kq_NoneType_str, kq_bool_int, kq_bool_bool, kq_bool_list, kq_bool_tuple, kq_bool_str, kq_int_int, kq_int_bool, kq_int_list, kq_int_tuple, kq_int_str, kq_str_int, kq_str_bool, kq_str_list, kq_str_tuple, kq_str_str, kq_list_int, kq_list_bool, kq_list_list, kq_list_tuple, kq_list_str, kq_tuple_int, kq_tuple_bool, kq_tuple_list, kq_tuple_tuple, kq_tuple_str, oInL, oIsB, oNotB, oEqH, oNeH, oShr, oExt, cMaxL, cMinL, cAny, cAll, cTuple, cListM, dRevL, dFld, dSetF, dAugF, dMeth, dMake, moI_ins, app_len, set_app, List.contains_cons, List.contains_nil, Bool.true_or,  Bool.true_eq_false, decide_true, not_true_eq_false, not_false_eq_true, Bool.not_true, Bool.not_false, decide_eq_true_eq, Bool.not_eq_true', decide_eq_false_iff_not, dSeq, dSet, dRaise_one, dRaise_two, dTryAs, dXf, dIsE, List.lookup_cons, List.lookup_nil, beq_self_eq_true, Bool.false_eq_true, if_false, dOp, dUn, dVar, dC, dCB, dCons, dNil, dRet, dRetN, dIf, dB, dAnd, dOr, dNot, dDrop, dNext, dMethL, dSetIx, dAndV, dOrV, dNotV, dBlV, dIfE, dLst, dTup, dLstM, dCall, dChain, dAsg, dgName, dgTup, bindD, asT, dFor, diList, diRng1, diRng2, diEnumerate, diZip, diReversed, dLc, dLcM, dYes, wipeD, dAug, dSl, dSlT, dpN, dpS,
  oI, oI0, oB0, oAdd, oNeg, oEq, oNe, oIx, oIsN, oNotN, isNon, oShl, oApp, oPop, oPopAt, cLen, cInt, cAbs, cSum, cMax2, cMin2, cList, cIsi, tyD, asL, asF, asK, moL_lst, ModC, DivC,
  List.getElem?_cons_zero, List.getElem?_cons_succ, List.set_cons_zero, List.set_cons_succ, List.getElem?_nil, List.length_cons, List.length_nil, List.length_map, Option.map_some, Option.bind_some, Option.isSome_some, if_true, true_and, and_true, MM.push])
local macro_rules | `(tactic| walk_at "lim") => `(tactic| repeat (first | (refine ⟨by decide, ?_⟩) | (refine ⟨by (try simp only [List.length_map, List.length_dropLast, List.length_append, List.length_cons, List.length_nil, List.length_replicate, List.length_take, List.length_drop, List.length_range]); (show _ ≤ 16777216); omega, ?_⟩)))

set_option hygiene false in
local macro_rules | `(tactic| walk_at "stp") => `(tactic| (refine dSeq_k fun k1 h1 => ?_; walk_at "dx"))
set_option hygiene false in
local macro_rules | `(tactic| walk_at "nxt") => `(tactic| (subst h1; (try dsimp only); refine dSeq_k fun k1 h1 => ?_; walk_at "dx"))
set_option hygiene false in
local macro_rules | `(tactic| walk_at "lst") => `(tactic| (subst h1; (try dsimp only); walk_at "dx"))
set_option hygiene false in
local macro_rules | `(tactic| walk_at "nxt2") => `(tactic| (subst h2; (try dsimp only); refine dSeq_k fun k2 h2 => ?_; walk_at "dx"))
set_option hygiene false in
local macro_rules | `(tactic| walk_at "stp2") => `(tactic| (refine dSeq_k fun k2 h2 => ?_; walk_at "dx"))
set_option hygiene false in
local macro_rules | `(tactic| walk_at "lst2") => `(tactic| (subst h2; (try dsimp only); walk_at "dx"))
set_option hygiene false in
local macro_rules | `(tactic| walk_at "nx0") => `(tactic| (subst h1; (try dsimp only); refine dSeq_k fun k1 h1 => ?_))

/-! ### contracts of the law's own defs -/
def C__law_corner : DC := fun ds m Φ _ => ∃ k n : Nat, ds = [.int (k : Nat), .int (n : Nat)] ∧ n ≤ 20 ∧ Φ (.lst ((corn k n).map D.int)) m
abbrev C__law_value : DC := C__law_value__2
def C__law_times : DC := fun ds m Φ _ => ∃ (L R : List Int) (a b c : Nat) (p : Int), ds = [.lst (L.map D.int), .lst (R.map D.int), szD a b c, .int p] ∧ PM p ∧ InP p L ∧ InP p R ∧ L.length = 2 ^ (a + b) ∧ R.length = 2 ^ (b + c) ∧ a ≤ 6 ∧ b ≤ 6 ∧ c ≤ 6 ∧ Φ (.lst ((mulT L R a b c p).map D.int)) m
def C__law_table : DC := fun ds m Φ _ => ∃ (n : Nat) (p : Int), ds = [.st 0, .int (n : Nat), .int p] ∧ m.s = 1 ∧ PM p ∧ n ≤ 10 ∧ ∀ T : List Int, T.length = 2 ^ n → InP p T → Φ (.lst (T.map D.int)) m
def F0 (L : List Int) (a : Nat) (ths : List Int) (p : Int) : List Int := (ths.take a).foldl (foldS p) L
def G0 (R : List Int) (a b c : Nat) (ths : List Int) (p : Int) : List Int := secT R ((ths.take (a + c)).drop a) b p
def SmP (p : Int) : Prop := p = 3 ∨ p = 5 ∨ p = 7 ∨ p = 11 ∨ p = 13
def atV (v : List Int) (t p : Int) : Int := (Dl.gi v 0 * (t - 1) * (t - 2) * ((p + 1) / 2) - Dl.gi v 1 * t * (t - 2) + Dl.gi v 2 * t * (t - 1) * ((p + 1) / 2)) % p
def invI (x p : Int) : Int := x ^ (p - 2).toNat % p
def pairF (u w cl p : Int) : List Int := if u * w % p = cl then [u, w] else if u ≠ 0 then [u, cl * invI u p % p] else if w ≠ 0 then [cl * invI w p % p, w] else [1, cl]
def C__law_at : DC := fun ds m Φ _ => ∃ (v : List Int) (t p : Int), ds = [.lst (v.map D.int), .int t, .int p] ∧ v.length = 3 ∧ SmP p ∧ InP p v ∧ 0 ≤ t ∧ t < p ∧ Φ (.int (atV v t p)) m
def C__law_inverse : DC := fun ds m Φ _ => ∃ x p : Int, ds = [.int x, .int p] ∧ SmP p ∧ 0 < x ∧ x < p ∧ Φ (.int (invI x p)) m
def C__law_pair : DC := fun ds m Φ _ => ∃ u w cl p : Int, ds = [.lst [.int u, .int w], .int cl, .int p] ∧ SmP p ∧ 0 ≤ u ∧ u < p ∧ 0 ≤ w ∧ w < p ∧ 0 ≤ cl ∧ cl < p ∧ Φ (.lst ((pairF u w cl p).map D.int)) m
def blfL (mn : List Int) (cl g p d0 d2 : Int) (third : Bool) : List Int :=
  let lack := (cl - Dl.gi mn 0 - Dl.gi mn 1) % p
  let m0 := if g < 2 then lack * g else d0
  let m1 := (lack - m0) % p
  let m2 := if g > 1 ∧ third = true then (m1 * g * (g - 2) - m0 * (g - 1) * (g - 2) * ((p + 1) / 2)) * invI (g * (g - 1) * ((p + 1) / 2) % p) p % p else d2
  [(Dl.gi mn 0 + m0) % p, (Dl.gi mn 1 + m1) % p, (Dl.gi mn 2 + m2) % p]
/-- a state that can be drawn from: the script's or one that the law has made -/
structure DrM (st : D) (base : Int → List MO) (sm : Nat) (ok : Int → Prop) (R : Int → Int → Int → Int → Prop) : Prop where
  dr : ∀ s (L : List MO) n (Φ : D → MM → Prop) (Ψ : XP), ok s → 0 < n → n < 2 ^ 30 → (∀ r s', 0 ≤ r → r < n → ok s' → R s n r s' → Φ (.int r) ⟨base s' ++ L, sm⟩) → C_drawX [st, .int n] ⟨base s ++ L, sm⟩ Φ Ψ
  len : ∀ s s', (base s).length = (base s').length
  kp : ∀ s s', kept ⟨base s, sm⟩ (base s')
def BlfR (ok : Int → Prop) (R : Int → Int → Int → Int → Prop) (s : Int) (mn : List Int) (cl g p : Int) (B : List Int) : Prop :=
  ((cl - Dl.gi mn 0 - Dl.gi mn 1) % p = 0 ∧ (∃ r s1, R s 4 r s1 ∧ 0 < r) ∧ B = mn) ∨
  ∃ s1, (((cl - Dl.gi mn 0 - Dl.gi mn 1) % p = 0 ∧ ∃ r, R s 4 r s1 ∧ ¬ 0 < r) ∨ ((cl - Dl.gi mn 0 - Dl.gi mn 1) % p ≠ 0 ∧ s1 = s)) ∧ ∃ d0 s2 d2 s3 b s4, R s1 p d0 s2 ∧ R s2 p d2 s3 ∧ (0 ≤ d0 ∧ d0 < p) ∧ (0 ≤ d2 ∧ d2 < p) ∧ (g > 1 → R s3 3 b s4) ∧ B = blfL mn cl g p d0 d2 (decide (0 < b))
def C__law_bluff : DC := fun ds m Φ _ => ∃ (st : D) (base : Int → List MO) (sm : Nat) (ok : Int → Prop) (R : Int → Int → Int → Int → Prop) (s : Int) (mn : List Int) (cl g p : Int), DrM st base sm ok R ∧ ds = [st, .lst (mn.map D.int), .int cl, .int g, .int p] ∧ m = ⟨base s, sm⟩ ∧ ok s ∧ SmP p ∧ mn.length = 3 ∧ InP p mn ∧ 0 ≤ cl ∧ cl < p ∧ 0 ≤ g ∧ g < p ∧ ∀ B s', BlfR ok R s mn cl g p B → Φ (.lst (B.map D.int)) ⟨base s', sm⟩
def BlfOK (cl p : Int) (B : List Int) : Prop := B.length = 3 ∧ InP p B ∧ (Dl.gi B 0 + Dl.gi B 1) % p = cl
/-- what a bluff from a made state sends -/
def blfI (s : Int) (mn : List Int) (cl g p : Int) : List Int :=
  if (cl - Dl.gi mn 0 - Dl.gi mn 1) % p = 0 ∧ 0 < drwI s 4 then mn else
  let s1 := if (cl - Dl.gi mn 0 - Dl.gi mn 1) % p = 0 then mixI s else s
  blfL mn cl g p (drwI s1 p) (drwI (mixI s1) p) (decide (0 < drwI (mixI (mixI s1)) 3))
structure TkP (L R C : List Int) (a b c : Nat) (ths : List Int) (p : Int) : Prop where
  sp : SmP p
  li : InP p L
  ri : InP p R
  ci : InP p C
  ll : L.length = 2 ^ (a + b)
  rl : R.length = 2 ^ (b + c)
  cl : C.length = 2 ^ (a + c)
  ti : InP p ths
  tl : ths.length = a + b + c
  a2 : a ≤ 2
  b2 : b ≤ 2
  c2 : c ≤ 2
def sdE (seed : Int) (ths : List Int) (n : Nat) : Int := seed + ((List.range n).map fun j : Nat => (Dl.gi ths (j : Nat) + 1) * 343 * ((j : Nat) + 3)).sum
/-- what may be sent at a round -/
def sndQ (seed : Int) (ths : List Int) (p : Int) (n : Nat) (mine : List Int) (cl : Int) (B : List Int) : Prop :=
  BlfOK cl p B ∧ (0 < seed → B = blfI (mixI (sdE seed ths n)) mine cl (drwI (sdE seed ths n) p) p)
def sntR (Q : Nat → List Int → Int → List Int → Prop) (p : Int) : Nat → List Int → List Int → List (List Int) → List Int → Int → Prop
  | k, f, g, B :: P, t :: r, cl => Q k (joinP f g p) cl B ∧ sntR Q p (k + 1) (foldS p f t) (foldS p g t) P r (atV B t p)
  | _, _, _, [], [], _ => True
  | _, _, _, _, _, _ => False
/-- the claim behind the rounds, and the place of the first agreement -/
def tlk (p : Int) : Nat → List Int → List Int → List (List Int) → List Int → Int → Option (Option Nat) → Int × Option (Option Nat)
  | k, f, g, B :: P, t :: r, cl, pl => tlk p (k + 1) (foldS p f t) (foldS p g t) P r (atV B t p) (if pl = none ∧ B ≠ joinP f g p ∧ atV B t p = atV (joinP f g p) t p then some (some k) else pl)
  | _, _, _, _, _, cl, pl => (cl, pl)
def plD : Option (Option Nat) → D
  | none => .non
  | some none => .tup [sD "claim"]
  | some (some k) => .tup [sD "round", .int (k : Nat)]
def mnV (L R : List Int) (a b c : Nat) (ths : List Int) (p : Int) : List Int := [Dl.gi ((ths.drop (a + c)).foldl (foldS p) (F0 L a ths p)) 0 % p, Dl.gi ((ths.drop (a + c)).foldl (foldS p) (G0 R a b c ths p)) 0 % p]
def tkE (L R C : List Int) (a b c : Nat) (ths : List Int) (p : Int) (P : List (List Int)) : Int × Option (Option Nat) :=
  tlk p 0 (F0 L a ths p) (G0 R a b c ths p) P (ths.drop (a + c)) (mle C (ths.take (a + c)) % p) (if mle C (ths.take (a + c)) % p = mle (mulT L R a b c p) (ths.take (a + c)) % p then some none else none)
def tkV (L R C : List Int) (a b c : Nat) (ths : List Int) (p : Int) (P : List (List Int)) : List Int :=
  pairF (Dl.gi (mnV L R a b c ths p) 0) (Dl.gi (mnV L R a b c ths p) 1) (tkE L R C a b c ths p P).1 p
def dueV (v mn : List Int) : D := if v = mn then .tup [sD "believed"] else .tup [sD "refused", if Dl.gi v 0 = Dl.gi mn 0 then sD "right" else sD "left"]
def tkD (L R C : List Int) (a b c : Nat) (ths : List Int) (p : Int) (P : List (List Int)) : D :=
  .tup [pairD P (tkV L R C a b c ths p P), dueV (tkV L R C a b c ths p P) (mnV L R a b c ths p), if C ≠ mulT L R a b c p ∧ tkV L R C a b c ths p P = mnV L R a b c ths p then plD (tkE L R C a b c ths p P).2 else .non]
def C__law_talk : DC := fun ds m Φ _ => ∃ (L R C : List Int) (a b c : Nat) (ths : List Int) (p seed : Int), ds = [.st 0, .lst (L.map D.int), .lst (R.map D.int), .lst (C.map D.int), szD a b c, .lst (ths.map D.int), .int p, .int seed] ∧ m.s = 1 ∧ TkP L R C a b c ths p ∧ 0 ≤ seed ∧ seed ≤ 100001 ∧
  ∀ P, sntR (fun k => sndQ seed ths p (a + c + k)) p 0 (F0 L a ths p) (G0 R a b c ths p) P (ths.drop (a + c)) (mle C (ths.take (a + c)) % p) → Φ (tkD L R C a b c ths p P) m
def ragr (p : Int) : Nat → List Int → List Int → List (List Int) → List Int → Option Nat
  | k, f, g, B :: P, t :: r => if sameV B (joinP f g p) p = false ∧ valV B t p = valV (joinP f g p) t p then some k else ragr p (k + 1) (foldS p f t) (foldS p g t) P r
  | _, _, _, _, _ => none
def rnD : Option Nat → D
  | none => .non
  | some k => .int (k : Nat)
def C_round_agreement : DC := fun ds m Φ _ => ∃ (k : Nat) (f g : List Int) (P : List (List Int)) (ths : List Int) (p : Int), ds = [.hnd k, .lst (P.map intL), .lst (ths.map D.int), .int p] ∧ PaB m k p f g ∧ SmP p ∧ InP p ths ∧ P.length = ths.length ∧ ths.length ≤ 100 ∧ (∀ B ∈ P, B.length = 3 ∧ InP p B) ∧
  ∀ o, Φ (rnD (ragr p 0 f g P ths)) ⟨m.M.set k o, m.s⟩
def blD (L R C : List Int) (a b c : Nat) (ths : List Int) (p : Int) (P : List (List Int)) (v mn : List Int) : D :=
  if v = mn ∧ C ≠ mulT L R a b c p then (if valAt C (ths.take (a + c)) p = valAt (mulT L R a b c p) (ths.take (a + c)) p then .tup [sD "claim"] else .tup [sD "round", rnD (ragr p 0 (F0 L a ths p) (G0 R a b c ths p) P (ths.drop (a + c)))]) else .non
def C_blame_product : DC := fun ds m Φ _ => ∃ (L R C : List Int) (a b c : Nat) (ths : List Int) (p : Int) (P : List (List Int)) (v mn : List Int), ds = [.lst (L.map D.int), .lst (R.map D.int), .lst (C.map D.int), szD a b c, .lst (ths.map D.int), pairD P v, .int p] ∧ TkP L R C a b c ths p ∧ P.length = b ∧ (∀ B ∈ P, B.length = 3 ∧ InP p B) ∧ v.length ≤ 100 ∧
  jpD L R C a c ths P v p = dueV v mn ∧ Φ (blD L R C a b c ths p P v mn) m
def C__law_timesM : DC := fun ds m Φ _ => ∃ (L R : List Int) (a b c : Nat) (p : Int), ds = [.lst (L.map D.int), .lst (R.map D.int), szD a b c, .int p] ∧ PM p ∧ InP p L ∧ InP p R ∧ L.length = 2 ^ (a + b) ∧ R.length = 2 ^ (b + c) ∧ a ≤ 6 ∧ b ≤ 6 ∧ c ≤ 6 ∧ Φ (.hnd m.M.length) (m.push (.lst ((mulT L R a b c p).map D.int)))
def C__law_small : DC := fun ds m Φ _ => ds = [.st 0] ∧ m.s = 1 ∧ ∀ Z, Φ (.bl true) ⟨m.M ++ Z, m.s⟩

def flT : String → List String := fun f => if f = "throws" then ["SumAsker"] else if f = "sums" then ["ProductTurn"] else if f = "sent" then ["SumAsker"] else if f = "second" then ["ProductAnswerer"] else if f = "row_point" then ["ProductTurn"] else if f = "points" then ["ProductTurn"] else if f = "p" then ["SumAsker", "ProductTurn", "ProductAnswerer"] else if f = "first" then ["ProductAnswerer"] else if f = "degrees" then ["SumAsker"] else if f = "column_point" then ["ProductTurn"] else if f = "claims" then ["ProductTurn"] else if f = "claim" then ["SumAsker"] else []
theorem fl_ProductAnswerer : Fl_ProductAnswerer flT := by constructor <;> decide
theorem fl_ProductTurn : Fl_ProductTurn flT := by constructor <;> decide
theorem fl_SumAsker : Fl_SumAsker flT := by constructor <;> decide
/- round_agreement: slots 0=answerer 1=polynomials 2=throws 3=p 4=k 5=number 6=mine -/
def W_round_agreement : DS := dSeq (dFor (diEnumerate (dCons (dVar 2) (dNil))) (dgTup [4, 5]) (dSeq (dSet 6 (dMeth [("ProductAnswerer", C_ProductAnswerer_poly)] "poly" 0 (dVar 0) dNil)) (dSeq (dIf (dAnd (dNot (dB (dCall 3 C_same (dCons (dOp oIx (dVar 1) (dVar 4)) (dCons (dVar 6) (dCons (dVar 3) (dNil))))))) (dB (dOp oEq (dCall 3 C_value (dCons (dOp oIx (dVar 1) (dVar 4)) (dCons (dVar 5) (dCons (dVar 3) (dNil))))) (dCall 3 C_value (dCons (dVar 6) (dCons (dVar 5) (dCons (dVar 3) (dNil)))))))) (dRet (dVar 4)) (dNext)) (dDrop (dMeth [("SumAsker", C_SumAsker_throw), ("ProductAnswerer", C_ProductAnswerer_throw)] "throw" 1 (dVar 0) (dCons (dVar 5) (dNil))))))) (dRet (dC .non))
/- blame_product: slots 0=left 1=right 2=claimed 3=sizes 4=throws 5=told 6=p 7=true 8=first 9=answerer -/
def W_blame_product : DS := dSeq (dIf (dB (dOp oNe (dCall 7 C_judge_product (dCons (dVar 0) (dCons (dVar 1) (dCons (dVar 2) (dCons (dVar 3) (dCons (dVar 4) (dCons (dVar 5) (dCons (dVar 6) (dNil))))))))) (dTup (dCons (dC (.str (PySem.Str.ofString "believed"))) (dNil))))) (dRet (dC .non)) (dNext)) (dSeq (dSet 7 (dCall 4 C_multiply (dCons (dVar 0) (dCons (dVar 1) (dCons (dVar 3) (dCons (dVar 6) (dNil))))))) (dSeq (dIf (dB (dOp oEq (dCB cList (dCons (dVar 2) (dNil))) (dVar 7))) (dRet (dC .non)) (dNext)) (dSeq (dSet 8 (dOp oAdd (dOp oIx (dVar 3) (dC (.int 0))) (dOp oIx (dVar 3) (dC (.int 2))))) (dSeq (dIf (dB (dOp oEq (dCall 3 C_value_at (dCons (dVar 2) (dCons (dSl (dVar 4) (dpN) (dpS (dVar 8))) (dCons (dVar 6) (dNil))))) (dCall 3 C_value_at (dCons (dVar 7) (dCons (dSl (dVar 4) (dpN) (dpS (dVar 8))) (dCons (dVar 6) (dNil))))))) (dRet (dTup (dCons (dC (.str (PySem.Str.ofString "claim"))) (dNil)))) (dNext)) (dSeq (dSet 9 (dMake 5 "ProductAnswerer" C_ProductAnswerer_init (dCons (dVar 6) (dCons (dVar 0) (dCons (dVar 1) (dCons (dVar 3) (dCons (dSl (dVar 4) (dpN) (dpS (dVar 8))) (dNil)))))))) (dRet (dTup (dCons (dC (.str (PySem.Str.ofString "round"))) (dCons (dCall 4 C_round_agreement (dCons (dVar 9) (dCons (dOp oIx (dVar 5) (dC (.int 0))) (dCons (dSl (dVar 4) (dpS (dVar 8)) (dpN)) (dCons (dVar 6) (dNil)))))) (dNil))))))))))
/- _law_corner: slots 0=_law_index 1=_law_bits 2=_law_k -/
def W__law_corner : DS := dRet (dLc (diRng1 (dCons (dVar 1) (dNil))) (dgName 2) (dYes) (dOp oMod (dCB cInt (dCons (dOp oDiv (dVar 0) (dOp oShl (dC (.int 1)) (dVar 2))) (dNil))) (dC (.int 2))) [2])
/- _law_value: slots 0=_law_table_here 1=_law_point 2=_law_p 3=_law_total 4=_law_k -/
def W__law_value : DS := dSeq (dSet 3 (dC (.int 0))) (dSeq (dFor (diRng1 (dCons (dCB cLen (dCons (dVar 0) (dNil))) (dNil))) (dgName 4) (dSet 3 (dOp oAdd (dVar 3) (dOp oMul (dOp oIx (dVar 0) (dVar 4)) (dCall 3 C__law_near__2 (dCons (dCall 2 C__law_corner (dCons (dVar 4) (dCons (dCB cLen (dCons (dVar 1) (dNil))) (dNil)))) (dCons (dVar 1) (dCons (dVar 2) (dNil))))))))) (dRet (dOp oMod (dCB cInt (dCons (dVar 3) (dNil))) (dVar 2))))
/- _law_times: slots 0=_law_left 1=_law_right 2=_law_sizes 3=_law_p 4=_law_a 5=_law_b 6=_law_c 7=_law_found 8=_law_i 9=_law_j 10=_law_k 11=_law_total -/
def W__law_times : DS := dSeq (dAsg (dVar 2) (dgTup [4, 5, 6])) (dSeq (dSet 7 (dLcM (diRng1 (dCons (dOp oShl (dC (.int 1)) (dOp oAdd (dVar 4) (dVar 6))) (dNil))) (dgName 10) (dYes) (dC (.int 0)) [10])) (dSeq (dFor (diRng1 (dCons (dOp oShl (dC (.int 1)) (dVar 4)) (dNil))) (dgName 8) (dFor (diRng1 (dCons (dOp oShl (dC (.int 1)) (dVar 6)) (dNil))) (dgName 9) (dSeq (dSet 11 (dC (.int 0))) (dSeq (dFor (diRng1 (dCons (dOp oShl (dC (.int 1)) (dVar 5)) (dNil))) (dgName 10) (dSet 11 (dOp oAdd (dVar 11) (dOp oMul (dOp oIx (dVar 0) (dOp oAdd (dVar 8) (dOp oMul (dOp oShl (dC (.int 1)) (dVar 4)) (dVar 10)))) (dOp oIx (dVar 1) (dOp oAdd (dVar 10) (dOp oMul (dOp oShl (dC (.int 1)) (dVar 5)) (dVar 9)))))))) (dSetIx (dOp oMod (dCB cInt (dCons (dVar 11) (dNil))) (dVar 3)) (dVar 7) (dOp oAdd (dVar 8) (dOp oMul (dOp oShl (dC (.int 1)) (dVar 4)) (dVar 9)))))))) (dRet (dVar 7))))
/- _law_table: slots 0=_law_state_here 1=_law_bits 2=_law_p 3=_law_most 4=_law_k -/
def W__law_table : DS := dSeq (dSet 3 (dCall 2 C_pick (dCons (dVar 0) (dCons (dLst (dCons (dC (.int 2)) (dCons (dVar 2) (dNil)))) (dNil))))) (dRet (dLc (diRng1 (dCons (dOp oShl (dC (.int 1)) (dVar 1)) (dNil))) (dgName 4) (dYes) (dCall 2 C_draw (dCons (dVar 0) (dCons (dVar 3) (dNil)))) [4]))
/- _law_at: slots 0=_law_values 1=_law_t 2=_law_p 3=_law_first 4=_law_second 5=_law_third 6=_law_half 7=_law_total -/
def W__law_at : DS := dSeq (dAsg (dVar 0) (dgUnl [3, 4, 5])) (dSeq (dSet 6 (dOp oDiv (dOp oAdd (dVar 2) (dC (.int 1))) (dC (.int 2)))) (dSeq (dSet 7 (dOp oAdd (dOp oSub (dOp oMul (dOp oMul (dOp oMul (dVar 3) (dOp oSub (dVar 1) (dC (.int 1)))) (dOp oSub (dVar 1) (dC (.int 2)))) (dVar 6)) (dOp oMul (dOp oMul (dVar 4) (dVar 1)) (dOp oSub (dVar 1) (dC (.int 2))))) (dOp oMul (dOp oMul (dOp oMul (dVar 5) (dVar 1)) (dOp oSub (dVar 1) (dC (.int 1)))) (dVar 6)))) (dRet (dOp oMod (dCB cInt (dCons (dVar 7) (dNil))) (dVar 2)))))
/- _law_inverse: slots 0=_law_number 1=_law_p 2=_law_k -/
def W__law_inverse : DS := dRet (dOp oIx (dLc (diRng2 (dCons (dC (.int 1)) (dCons (dVar 1) (dNil)))) (dgName 2) (dB (dOp oEq (dOp oMod (dCB cInt (dCons (dOp oMul (dVar 2) (dVar 0)) (dNil))) (dVar 1)) (dC (.int 1)))) (dVar 2) [2]) (dC (.int 0)))
/- _law_bluff: slots 0=_law_state_here 1=_law_mine 2=_law_claim 3=_law_guess 4=_law_p 5=_law_lack 6=_law_half 7=_law_more 8=_law_rest 9=_law_k -/
def W__law_bluff : DS := dSeq (dSet 5 (dOp oMod (dCB cInt (dCons (dOp oSub (dOp oSub (dVar 2) (dOp oIx (dVar 1) (dC (.int 0)))) (dOp oIx (dVar 1) (dC (.int 1)))) (dNil))) (dVar 4))) (dSeq (dIf (dAnd (dB (dOp oEq (dVar 5) (dC (.int 0)))) (dB (dOp oGt (dCall 2 C_drawX (dCons (dVar 0) (dCons (dC (.int 4)) (dNil)))) (dC (.int 0))))) (dRet (dCB cList (dCons (dVar 1) (dNil)))) (dNext)) (dSeq (dSet 6 (dOp oDiv (dOp oAdd (dVar 4) (dC (.int 1))) (dC (.int 2)))) (dSeq (dSet 7 (dLstM (dCons (dCall 2 C_drawX (dCons (dVar 0) (dCons (dVar 4) (dNil)))) (dCons (dC (.int 0)) (dCons (dCall 2 C_drawX (dCons (dVar 0) (dCons (dVar 4) (dNil)))) (dNil)))))) (dSeq (dIf (dB (dOp oLt (dVar 3) (dC (.int 2)))) (dSetIx (dOp oMul (dVar 5) (dVar 3)) (dVar 7) (dC (.int 0))) (dNext)) (dSeq (dSetIx (dOp oMod (dCB cInt (dCons (dOp oSub (dVar 5) (dOp oIx (dVar 7) (dC (.int 0)))) (dNil))) (dVar 4)) (dVar 7) (dC (.int 1))) (dSeq (dIf (dAnd (dB (dOp oGt (dVar 3) (dC (.int 1)))) (dB (dOp oGt (dCall 2 C_drawX (dCons (dVar 0) (dCons (dC (.int 3)) (dNil)))) (dC (.int 0))))) (dSeq (dSet 8 (dOp oSub (dOp oMul (dOp oMul (dOp oIx (dVar 7) (dC (.int 1))) (dVar 3)) (dOp oSub (dVar 3) (dC (.int 2)))) (dOp oMul (dOp oMul (dOp oMul (dOp oIx (dVar 7) (dC (.int 0))) (dOp oSub (dVar 3) (dC (.int 1)))) (dOp oSub (dVar 3) (dC (.int 2)))) (dVar 6)))) (dSetIx (dOp oMod (dCB cInt (dCons (dOp oMul (dVar 8) (dCall 2 C__law_inverse (dCons (dOp oMod (dCB cInt (dCons (dOp oMul (dOp oMul (dVar 3) (dOp oSub (dVar 3) (dC (.int 1)))) (dVar 6)) (dNil))) (dVar 4)) (dCons (dVar 4) (dNil))))) (dNil))) (dVar 4)) (dVar 7) (dC (.int 2)))) (dNext)) (dRet (dLc (diRng1 (dCons (dC (.int 3)) (dNil))) (dgName 9) (dYes) (dOp oMod (dCB cInt (dCons (dOp oAdd (dOp oIx (dVar 1) (dVar 9)) (dOp oIx (dVar 7) (dVar 9))) (dNil))) (dVar 4)) [9]))))))))
/- _law_pair: slots 0=_law_mine 1=_law_claim 2=_law_p 3=_law_u 4=_law_v -/
def W__law_pair : DS := dSeq (dAsg (dVar 0) (dgUnl [3, 4])) (dSeq (dIf (dB (dOp oEq (dOp oMod (dCB cInt (dCons (dOp oMul (dVar 3) (dVar 4)) (dNil))) (dVar 2)) (dVar 1))) (dRet (dLst (dCons (dVar 3) (dCons (dVar 4) (dNil))))) (dNext)) (dSeq (dIf (dB (dOp oNe (dVar 3) (dC (.int 0)))) (dRet (dLst (dCons (dVar 3) (dCons (dOp oMod (dCB cInt (dCons (dOp oMul (dVar 1) (dCall 2 C__law_inverse (dCons (dVar 3) (dCons (dVar 2) (dNil))))) (dNil))) (dVar 2)) (dNil))))) (dNext)) (dRet (dIfE (dB (dOp oNe (dVar 4) (dC (.int 0)))) (dLst (dCons (dOp oMod (dCB cInt (dCons (dOp oMul (dVar 1) (dCall 2 C__law_inverse (dCons (dVar 4) (dCons (dVar 2) (dNil))))) (dNil))) (dVar 2)) (dCons (dVar 4) (dNil)))) (dLst (dCons (dC (.int 1)) (dCons (dVar 1) (dNil))))))))
/- _law_talk: slots 0=_law_state_here 1=_law_left 2=_law_right 3=_law_claimed 4=_law_sizes 5=_law_throws 6=_law_p 7=_law_seed 8=_law_a 9=_law_b 10=_law_c 11=_law_point 12=_law_true 13=_law_claim 14=_law_place 15=_law_answerer 16=_law_sent 17=_law_k 18=_law_mine 19=_law_pair_here 20=_law_due 21=_law_number 22=_law_guess 23=_law_j -/
def W__law_talk : DS := dSeq (dAsg (dVar 4) (dgTup [8, 9, 10])) (dSeq (dSet 11 (dSl (dVar 5) (dpN) (dpS (dOp oAdd (dVar 8) (dVar 10))))) (dSeq (dSet 12 (dCall 4 C__law_times (dCons (dVar 1) (dCons (dVar 2) (dCons (dVar 4) (dCons (dVar 6) (dNil))))))) (dSeq (dSet 13 (dCall 3 C__law_value (dCons (dVar 3) (dCons (dVar 11) (dCons (dVar 6) (dNil)))))) (dSeq (dSet 14 (dIfE (dB (dOp oEq (dVar 13) (dCall 3 C__law_value (dCons (dVar 12) (dCons (dVar 11) (dCons (dVar 6) (dNil))))))) (dTup (dCons (dC (.str (PySem.Str.ofString "claim"))) (dNil))) (dC .non))) (dSeq (dSet 15 (dMake 5 "ProductAnswerer" C_ProductAnswerer_init (dCons (dVar 6) (dCons (dVar 1) (dCons (dVar 2) (dCons (dVar 4) (dCons (dVar 11) (dNil)))))))) (dSeq (dSet 16 (dLstM (dNil))) (dSeq (dFor (diRng1 (dCons (dVar 9) (dNil))) (dgName 17) (dSeq (dSet 21 (dOp oIx (dVar 5) (dOp oAdd (dOp oAdd (dVar 8) (dVar 10)) (dVar 17)))) (dSeq (dSet 18 (dMeth [("ProductAnswerer", C_ProductAnswerer_poly)] "poly" 0 (dVar 15) dNil)) (dSeq (dIf (dB (dOp oGt (dVar 7) (dC (.int 0)))) (dSet 0 (dLstM (dCons (dLst (dNil)) (dCons (dOp oAdd (dVar 7) (dCB cSum (dCons (dLc (diRng1 (dCons (dOp oAdd (dOp oAdd (dVar 8) (dVar 10)) (dVar 17)) (dNil))) (dgName 23) (dYes) (dOp oMul (dOp oMul (dOp oAdd (dOp oIx (dVar 5) (dVar 23)) (dC (.int 1))) (dOp (oI CPow fun i j => i ^ j.toNat) (dC (.int 7)) (dC (.int 3)))) (dOp oAdd (dVar 23) (dC (.int 3)))) [23]) (dNil)))) (dNil))))) (dNext)) (dSeq (dSet 22 (dIfE (dOr (dB (dOp oGt (dVar 7) (dC (.int 0)))) (dB (dOp oEq (dCall 2 C_drawX (dCons (dVar 0) (dCons (dC (.int 3)) (dNil)))) (dC (.int 0))))) (dCall 2 C_drawX (dCons (dVar 0) (dCons (dVar 6) (dNil)))) (dVar 21))) (dSeq (dDrop (dMethL oApp (dVar 16) (dCons (dCall 5 C__law_bluff (dCons (dVar 0) (dCons (dVar 18) (dCons (dVar 13) (dCons (dVar 22) (dCons (dVar 6) (dNil))))))) (dNil)))) (dSeq (dSet 13 (dCall 3 C__law_at (dCons (dOp oIx (dVar 16) (dVar 17)) (dCons (dVar 21) (dCons (dVar 6) (dNil)))))) (dSeq (dIf (dAnd (dB (dOp oIsN (dVar 14) (dC .non))) (dAnd (dB (dOp oNe (dOp oIx (dVar 16) (dVar 17)) (dVar 18))) (dB (dOp oEq (dVar 13) (dCall 3 C__law_at (dCons (dVar 18) (dCons (dVar 21) (dCons (dVar 6) (dNil))))))))) (dSet 14 (dTup (dCons (dC (.str (PySem.Str.ofString "round"))) (dCons (dVar 17) (dNil))))) (dNext)) (dDrop (dMeth [("ProductAnswerer", C_ProductAnswerer_throw)] "throw" 1 (dVar 15) (dCons (dVar 21) (dNil)))))))))))) (dSeq (dSet 18 (dMeth [("ProductAnswerer", C_ProductAnswerer_pair)] "pair" 0 (dVar 15) dNil)) (dSeq (dSet 19 (dCall 3 C__law_pair (dCons (dVar 18) (dCons (dVar 13) (dCons (dVar 6) (dNil)))))) (dSeq (dSet 20 (dTup (dCons (dC (.str (PySem.Str.ofString "believed"))) (dNil)))) (dSeq (dIf (dB (dOp oNe (dVar 19) (dVar 18))) (dSet 20 (dTup (dCons (dC (.str (PySem.Str.ofString "refused"))) (dCons (dIfE (dB (dOp oNe (dOp oIx (dVar 19) (dC (.int 0))) (dOp oIx (dVar 18) (dC (.int 0))))) (dC (.str (PySem.Str.ofString "left"))) (dC (.str (PySem.Str.ofString "right")))) (dNil))))) (dNext)) (dFrz 16 (dRet (dTup (dCons (dTup (dCons (dVar 16) (dCons (dVar 19) (dNil)))) (dCons (dVar 20) (dCons (dIfE (dAnd (dB (dOp oNe (dVar 3) (dVar 12))) (dB (dOp oEq (dVar 20) (dTup (dCons (dC (.str (PySem.Str.ofString "believed"))) (dNil)))))) (dVar 14) (dC .non)) (dNil))))))))))))))))))
/- _law_small: slots 0=_law_state_here 1=_law_p 2=_law_sizes 3=_law_a 4=_law_b 5=_law_c 6=_law_left 7=_law_right 8=_law_claimed 9=_law_at_here 10=_law_seed 11=_law_many 12=_law_count 13=_law_index 14=_law_throws 15=_law_told 16=_law_due 17=_law_place 18=_law_result 19=_law_k -/
def W__law_small : DS := dSeq (dSet 1 (dC (.int 5))) (dSeq (dSet 2 (dCall 2 C_pick (dCons (dVar 0) (dCons (dLst (dCons (dTup (dCons (dC (.int 1)) (dCons (dC (.int 0)) (dCons (dC (.int 0)) (dNil))))) (dCons (dTup (dCons (dC (.int 0)) (dCons (dC (.int 1)) (dCons (dC (.int 0)) (dNil))))) (dCons (dTup (dCons (dC (.int 1)) (dCons (dC (.int 1)) (dCons (dC (.int 0)) (dNil))))) (dCons (dTup (dCons (dC (.int 0)) (dCons (dC (.int 1)) (dCons (dC (.int 1)) (dNil))))) (dCons (dTup (dCons (dC (.int 0)) (dCons (dC (.int 2)) (dCons (dC (.int 0)) (dNil))))) (dNil))))))) (dNil))))) (dSeq (dAsg (dVar 2) (dgTup [3, 4, 5])) (dSeq (dSet 6 (dCall 3 C__law_table (dCons (dVar 0) (dCons (dOp oAdd (dVar 3) (dVar 4)) (dCons (dVar 1) (dNil)))))) (dSeq (dSet 7 (dCall 3 C__law_table (dCons (dVar 0) (dCons (dOp oAdd (dVar 4) (dVar 5)) (dCons (dVar 1) (dNil)))))) (dSeq (dSet 8 (dCall 4 C__law_timesM (dCons (dVar 6) (dCons (dVar 7) (dCons (dVar 2) (dCons (dVar 1) (dNil))))))) (dSeq (dSet 9 (dCall 2 C_draw (dCons (dVar 0) (dCons (dCB cLen (dCons (dVar 8) (dNil))) (dNil))))) (dSeq (dSetIx (dOp oMod (dCB cInt (dCons (dOp oAdd (dOp oAdd (dOp oIx (dVar 8) (dVar 9)) (dC (.int 1))) (dCall 2 C_draw (dCons (dVar 0) (dCons (dC (.int 4)) (dNil))))) (dNil))) (dVar 1)) (dVar 8) (dVar 9)) (dSeq (dSet 10 (dOp oAdd (dC (.int 1)) (dCall 2 C_draw (dCons (dVar 0) (dCons (dC (.int 100000)) (dNil)))))) (dSeq (dSet 11 (dOp oAdd (dOp oAdd (dVar 3) (dVar 4)) (dVar 5))) (dSeq (dSet 12 (dC (.int 0))) (dSeq (dFrz 8 (dFor (diRng1 (dCons (dOp oIx (dLst (dCons (dC (.int 1)) (dCons (dC (.int 5)) (dCons (dC (.int 25)) (dNil))))) (dVar 11)) (dNil))) (dgName 13) (dSeq (dSet 14 (dLc (diRng1 (dCons (dVar 11) (dNil))) (dgName 19) (dYes) (dOp oMod (dCB cInt (dCons (dOp oDiv (dVar 13) (dOp oIx (dLst (dCons (dC (.int 1)) (dCons (dC (.int 5)) (dNil)))) (dVar 19))) (dNil))) (dC (.int 5))) [19])) (dSeq (dAsg (dCall 8 C__law_talk (dCons (dVar 0) (dCons (dVar 6) (dCons (dVar 7) (dCons (dVar 8) (dCons (dVar 2) (dCons (dVar 14) (dCons (dVar 1) (dCons (dVar 10) (dNil)))))))))) (dgTup [15, 16, 17])) (dSeq (dSet 18 (dCall 7 C_judge_product (dCons (dVar 6) (dCons (dVar 7) (dCons (dVar 8) (dCons (dVar 2) (dCons (dVar 14) (dCons (dVar 15) (dCons (dVar 1) (dNil)))))))))) (dSeq (dIf (dOr (dB (dOp oNe (dVar 18) (dVar 16))) (dB (dOp oNe (dCall 7 C_blame_product (dCons (dVar 6) (dCons (dVar 7) (dCons (dVar 8) (dCons (dVar 2) (dCons (dVar 14) (dCons (dVar 15) (dCons (dVar 1) (dNil))))))))) (dVar 17)))) (dRet (dC (.bl false))) (dNext)) (dSet 12 (dOp oAdd (dVar 12) (dCB cInt (dCons (dOp oEq (dVar 18) (dTup (dCons (dC (.str (PySem.Str.ofString "believed"))) (dNil)))) (dNil))))))))))) (dRet (dOp oLe (dOp oMul (dC (.int 5)) (dVar 12)) (dOp oMul (dOp oIx (dLst (dCons (dC (.int 1)) (dCons (dC (.int 5)) (dCons (dC (.int 25)) (dNil))))) (dVar 11)) (dCall 1 C_product_share (dCons (dVar 2) (dNil)))))))))))))))))
/- law: slots 0=_law_script 1=_law_state_here 2=_law_p 3=_law_sizes 4=_law_a 5=_law_b 6=_law_c 7=_law_left 8=_law_right 9=_law_claimed 10=_law_turn 11=_law_k 12=_law_throws 13=_law_told 14=_law_due 15=_law_place 16=_law_before -/
def W_law : DS := dSeq (dSet 1 (dCall 1 C_state (dCons (dVar 0) (dNil)))) (dSeq (dSet 2 (dCall 2 C_pick (dCons (dVar 1) (dCons (dLst (dCons (dC (.int 3)) (dCons (dC (.int 5)) (dCons (dC (.int 7)) (dCons (dC (.int 11)) (dCons (dC (.int 13)) (dNil))))))) (dNil))))) (dSeq (dSet 3 (dTup (dCons (dCall 2 C_draw (dCons (dVar 1) (dCons (dC (.int 3)) (dNil)))) (dCons (dCall 2 C_draw (dCons (dVar 1) (dCons (dC (.int 3)) (dNil)))) (dCons (dCall 2 C_draw (dCons (dVar 1) (dCons (dC (.int 3)) (dNil)))) (dNil)))))) (dSeq (dAsg (dVar 3) (dgTup [4, 5, 6])) (dSeq (dSet 7 (dCall 3 C__law_table (dCons (dVar 1) (dCons (dOp oAdd (dVar 4) (dVar 5)) (dCons (dVar 2) (dNil)))))) (dSeq (dSet 8 (dCall 3 C__law_table (dCons (dVar 1) (dCons (dOp oAdd (dVar 5) (dVar 6)) (dCons (dVar 2) (dNil)))))) (dSeq (dSet 9 (dCall 4 C__law_timesM (dCons (dVar 7) (dCons (dVar 8) (dCons (dVar 3) (dCons (dVar 2) (dNil))))))) (dSeq (dIf (dB (dOp oGt (dCall 2 C_draw (dCons (dVar 1) (dCons (dC (.int 4)) (dNil)))) (dC (.int 0)))) (dFor (diRng1 (dCons (dOp oAdd (dC (.int 1)) (dCall 2 C_draw (dCons (dVar 1) (dCons (dC (.int 3)) (dNil))))) (dNil))) (dgName 11) (dSetIx (dCall 2 C_draw (dCons (dVar 1) (dCons (dVar 2) (dNil)))) (dVar 9) (dCall 2 C_draw (dCons (dVar 1) (dCons (dCB cLen (dCons (dVar 9) (dNil))) (dNil)))))) (dNext)) (dSeq (dFrz 9 (dFor (diRng1 (dCons (dC (.int 4)) (dNil))) (dgName 10) (dSeq (dSet 12 (dLc (diRng1 (dCons (dOp oAdd (dOp oAdd (dVar 4) (dVar 5)) (dVar 6)) (dNil))) (dgName 11) (dYes) (dCall 2 C_draw (dCons (dVar 1) (dCons (dVar 2) (dNil)))) [11])) (dSeq (dAsg (dCall 8 C__law_talk (dCons (dVar 1) (dCons (dVar 7) (dCons (dVar 8) (dCons (dVar 9) (dCons (dVar 3) (dCons (dVar 12) (dCons (dVar 2) (dCons (dC (.int 0)) (dNil)))))))))) (dgTup [13, 14, 15])) (dSeq (dSet 16 (dCB cRepr2 (dCons (dLst (dCons (dVar 7) (dCons (dVar 8) (dCons (dVar 9) (dCons (dVar 12) (dCons (dVar 13) (dNil))))))) (dNil)))) (dSeq (dIf (dB (dOp oNe (dCall 7 C_judge_product (dCons (dVar 7) (dCons (dVar 8) (dCons (dVar 9) (dCons (dVar 3) (dCons (dVar 12) (dCons (dVar 13) (dCons (dVar 2) (dNil))))))))) (dVar 14))) (dRet (dC (.bl false))) (dNext)) (dSeq (dIf (dB (dOp oNe (dCall 7 C_blame_product (dCons (dVar 7) (dCons (dVar 8) (dCons (dVar 9) (dCons (dVar 3) (dCons (dVar 12) (dCons (dVar 13) (dCons (dVar 2) (dNil))))))))) (dVar 15))) (dRet (dC (.bl false))) (dNext)) (dSeq (dIf (dAnd (dB (dOp oEq (dVar 14) (dTup (dCons (dC (.str (PySem.Str.ofString "believed"))) (dNil))))) (dAnd (dB (dOp oNe (dVar 9) (dCall 4 C__law_times (dCons (dVar 7) (dCons (dVar 8) (dCons (dVar 3) (dCons (dVar 2) (dNil)))))))) (dB (dOp oIsN (dVar 15) (dC .non))))) (dRet (dC (.bl false))) (dNext)) (dIf (dB (dOp oNeS (dCB cRepr2 (dCons (dLst (dCons (dVar 7) (dCons (dVar 8) (dCons (dVar 9) (dCons (dVar 12) (dCons (dVar 13) (dNil))))))) (dNil))) (dVar 16))) (dRet (dC (.bl false))) (dNext)))))))))) (dRet (dCall 1 C__law_small (dCons (dVar 1) (dNil))))))))))))
theorem rd__law_corner : ∀ ds m Φ Ψ, ds.length = 2 → C__law_corner ds m Φ Ψ → W__law_corner { nx := fun _ m' => Φ .non m', rt := Φ } (fun _ => Ψ) (ds.map some ++ List.replicate (3 - ds.length) none) m := by
  intro ds m Φ Ψ _ h
  obtain ⟨k, n, rfl, hn, q⟩ := h
  change W__law_corner _ _ [some (.int (k : Nat)), some (.int (n : Nat)), none] m
  unfold W__law_corner
  walk_at "dx"
  refine ⟨⟨by omega, by omega⟩, ?_⟩
  rw [rngD0, Int.toNat_natCast]
  refine lcW_fn (inj := fun i : Nat => D.int (i : Nat)) (out := D.int) (fun j : Nat => ((k / 2 ^ j % 2 : Nat) : Int)) m (List.range n) ?_ (fun _ => rfl) (by rw [List.length_range]; show _ ≤ 16777216; omega) q
  intro j hj m2 Θ hΘ
  have hj := List.mem_range.mp hj
  walk_at "dx"
  rw [shl1]
  have j1 : 1 ≤ (2 : Nat) ^ j := Nat.one_le_two_pow
  have j2 : (2 : Nat) ^ j ≤ 2 ^ 20 := Nat.pow_le_pow_right (by decide) (by omega)
  refine ⟨cpow_ok (by omega), by omega, by decide, ?_⟩
  rw [show ((k : Nat) : Int) / ((2 ^ j : Nat) : Int) % 2 = ((k / 2 ^ j % 2 : Nat) : Int) by rw [Int.natCast_emod, Int.natCast_ediv]; rfl]
  exact hΘ
theorem rd__law_value : ∀ ds m Φ Ψ, ds.length = 3 → C__law_value ds m Φ Ψ → W__law_value { nx := fun _ m' => Φ .non m', rt := Φ } (fun _ => Ψ) (ds.map some ++ List.replicate (5 - ds.length) none) m := by
  intro ds m Φ Ψ _ h
  obtain ⟨t, pt, p, rfl, hp, ht, hpt, hl, h16, q⟩ := h
  have hp1 := hp.1
  have hp2 := hp.2
  have p16 : (2 : Nat) ^ pt.length ≤ 2 ^ 16 := Nat.pow_le_pow_right (by decide) h16
  change W__law_value _ _ [some (.lst (t.map D.int)), some (.lst (pt.map D.int)), some (.int p), none, none] m
  unfold W__law_value
  walk_at "stp"
  walk_at "nxt"
  refine ⟨⟨by omega, by omega⟩, ?_⟩
  rw [rngD0, Int.toNat_natCast]
  refine forW_nat (fun k ρ m' => ∃ (z : Int) (v4 : Option D), Cg p z (S k fun z => wt pt z * Dl.gi t (z : Nat)) ∧ ρ = [some (.lst (t.map D.int)), some (.lst (pt.map D.int)), some (.int p), some (.int z), v4] ∧ m' = m) ?_ ?_ ⟨0, none, .refl, rfl, rfl⟩
  · rintro k kk hk hkk ρ m' ⟨z, v4, hz, rfl, rfl⟩
    have gt := ht.gN hk
    walk_at "dx"
    refine ⟨_, atI_gi (by omega) (by omega), k, pt.length, rfl, by omega, ?_⟩
    refine ⟨corn k pt.length, pt, p, rfl, hp, corn_in hp1, hpt, corn_len, by rw [corn_len]; omega, ?_⟩
    walk_at "dx"
    refine ⟨mulL gt.1 (by omega), hkk _ _ ⟨_, _, ?_, rfl, rfl⟩⟩
    show Cg p _ (S k _ + wt pt k * Dl.gi t (k : Nat))
    rw [Int.mul_comm (wt pt k)]
    exact Cg.add hz (Cg.mul .refl (near_corn (by omega)))
  · rintro ρ m' ⟨z, v4, hz, rfl, rfl⟩
    walk_at "lst"
    rw [hl] at hz
    have e : z % p = mle t pt % p := hz
    rw [e]
    exact ⟨by omega, q⟩
theorem set_rng {n k : Nat} {f : Nat → Int} {v : Int} : ((List.range n).map f).set k v = (List.range n).map fun z => if z = k then v else f z := by
  refine List.ext_getElem? fun i => ?_
  rw [List.getElem?_set, List.length_map, List.length_range, List.getElem?_map, List.getElem?_map]
  by_cases hi : k = i
  · subst hi
    rw [if_pos rfl]
    by_cases hk : k < n
    · rw [if_pos hk, List.getElem?_range hk]
      show _ = some (if k = k then v else f k)
      rw [if_pos rfl]
    · rw [if_neg hk, List.getElem?_eq_none (by rw [List.length_range]; omega)]
      rfl
  · rw [if_neg hi]
    by_cases hk : i < n
    · rw [List.getElem?_range hk]
      show some (f i) = some (if i = k then v else f i)
      rw [if_neg (fun e => hi e.symm)]
    · rw [List.getElem?_eq_none (by rw [List.length_range]; omega)]
      rfl
theorem mulT_ac {L R : List Int} {a b c : Nat} {p : Int} : (List.range (2 ^ (a + c))).map (fun z => mulE L R a b p (z % 2 ^ a) (z / 2 ^ a)) = mulT L R a b c p := by
  unfold mulT
  rw [Nat.pow_add, Nat.mul_comm (2 ^ a)]
theorem rd__law_timesM : ∀ ds m Φ Ψ, ds.length = 4 → C__law_timesM ds m Φ Ψ → W__law_times { nx := fun _ m' => Φ .non m', rt := Φ } (fun _ => Ψ) (ds.map some ++ List.replicate (12 - ds.length) none) m := by
  intro ds m Φ Ψ _ h
  obtain ⟨L, R, a, b, c, p, rfl, hp, hL, hR, lL, lR, ha, hb, hc, q⟩ := h
  have hp1 := hp.1
  have hp2 := hp.2
  obtain ⟨a64, a1⟩ := pow6 ha
  obtain ⟨b64, b1⟩ := pow6 hb
  obtain ⟨c64, c1⟩ := pow6 hc
  have N12 : 2 ^ (a + c) ≤ 64 * 64 := by rw [Nat.pow_add]; exact Nat.mul_le_mul a64 c64
  change W__law_times _ _ [some (.lst (L.map D.int)), some (.lst (R.map D.int)), some (szD a b c), some (.int p), none, none, none, none, none, none, none, none] m
  unfold W__law_times szD
  walk_at "stp"
  walk_at "nxt"
  rw [show ((a : Nat) : Int) + (c : Nat) = ((a + c : Nat) : Int) by omega, shl1]
  have N12' : 2 ^ (a + c) ≤ 4096 := N12
  have hh : ∀ N : Nat, N ≤ 4096 → -(2 ^ 62 : Int) ≤ (N : Int) ∧ (N : Int) < 2 ^ 62 := fun N h => ⟨by omega, by omega⟩
  refine ⟨cpow_ok (by omega), hh _ N12', ?_⟩
  rw [Int.toNat_natCast, rngD0]
  refine lcWM_fn (inj := fun i : Nat => D.int (i : Nat)) (out := D.int) (fun _ : Nat => (0 : Int)) _ (List.range (2 ^ (a + c))) [] (fun i hi m2 Θ hΘ => ?_) (by rw [List.length_nil, List.length_range]; show _ ≤ 16777216; omega) ?_
  · walk_at "dx"
    exact hΘ
  walk_at "nxt"
  rw [shl1]
  refine ⟨cpow_ok (by omega), ⟨by omega, by omega⟩, ?_⟩
  rw [Int.toNat_natCast, rngD0]
  obtain ⟨FF, hFF⟩ : ∃ FF : Nat → Nat → Nat → Int, FF = fun i j z => if z % 2 ^ a < i ∨ (z % 2 ^ a = i ∧ z / 2 ^ a < j) then mulE L R a b p (z % 2 ^ a) (z / 2 ^ a) else 0 := ⟨_, rfl⟩
  refine forW_nat (fun i ρ m' => ∃ (v8 v9 v10 v11 : Option D), ρ = [some (.lst (L.map D.int)), some (.lst (R.map D.int)), some (szD a b c), some (.int p), some (.int (a : Nat)), some (.int (b : Nat)), some (.int (c : Nat)), some (.hnd m.M.length), v8, v9, v10, v11] ∧
    m' = ⟨m.M ++ [MO.lst (((List.range (2 ^ (a + c))).map (FF i 0)).map D.int)], m.s⟩) ?_ ?_ ⟨_, _, _, _, rfl, ?_⟩
  · rintro i kk hi hkk ρ m' ⟨v8, v9, v10, v11, rfl, rfl⟩
    clear h1
    walk_at "dx"
    rw [shl1]
    refine ⟨cpow_ok (by omega), ⟨by omega, by omega⟩, ?_⟩
    rw [Int.toNat_natCast, rngD0]
    refine forW_nat (fun j ρ m' => ∃ (v9 v10 v11 : Option D), ρ = [some (.lst (L.map D.int)), some (.lst (R.map D.int)), some (szD a b c), some (.int p), some (.int (a : Nat)), some (.int (b : Nat)), some (.int (c : Nat)), some (.hnd m.M.length), some (.int (i : Nat)), v9, v10, v11] ∧
      m' = ⟨m.M ++ [MO.lst (((List.range (2 ^ (a + c))).map (FF i j)).map D.int)], m.s⟩) ?_ ?_ ⟨_, _, _, rfl, rfl⟩
    · rintro j k2 hj hk2 ρ m' ⟨v9, v10, v11, rfl, rfl⟩
      walk_at "stp"
      walk_at "nxt"
      rw [shl1]
      refine ⟨cpow_ok (by omega), ⟨by omega, by omega⟩, ?_⟩
      rw [Int.toNat_natCast, rngD0]
      refine forW_nat (fun k ρ m' => ∃ (v10 : Option D), ρ = [some (.lst (L.map D.int)), some (.lst (R.map D.int)), some (szD a b c), some (.int p), some (.int (a : Nat)), some (.int (b : Nat)), some (.int (c : Nat)), some (.hnd m.M.length), some (.int (i : Nat)), some (.int (j : Nat)), v10, some (.int (S k fun k => Dl.gi L ((i + k * 2 ^ a : Nat) : Int) * Dl.gi R ((k + j * 2 ^ b : Nat) : Int)))] ∧
        m' = ⟨m.M ++ [MO.lst (((List.range (2 ^ (a + c))).map (FF i j)).map D.int)], m.s⟩) ?_ ?_ ⟨_, rfl, rfl⟩
      · rintro k k3 hk hk3 ρ m' ⟨v10, rfl, rfl⟩
        clear h1
        have x1 := ix2 (b := b) hi hk
        have x2 := ix2 (b := c) hk hj
        walk_at "dx"
        rw [shl1, shl1]
        have g1 := hL.gN (i := i + k * 2 ^ a) (by omega)
        refine ⟨cpow_ok (by omega), mulL (Int.natCast_nonneg _) (by omega), _, by rw [show ((i : Nat) : Int) + ((2 ^ a : Nat) : Int) * ((k : Nat) : Int) = ((i + k * 2 ^ a : Nat) : Int) by rw [← Int.natCast_mul, Nat.mul_comm]; omega]; exact atI_gi (by omega) (by omega), ?_⟩
        walk_at "dx"
        refine ⟨cpow_ok (by omega), mulL (Int.natCast_nonneg _) (by omega), _, by rw [show ((k : Nat) : Int) + ((2 ^ b : Nat) : Int) * ((j : Nat) : Int) = ((k + j * 2 ^ b : Nat) : Int) by rw [← Int.natCast_mul, Nat.mul_comm]; omega]; exact atI_gi (by omega) (by omega), ?_⟩
        walk_at "dx"
        exact ⟨mulL g1.1 (by omega), hk3 _ _ ⟨_, rfl, rfl⟩⟩
      · rintro ρ m' ⟨v10, rfl, rfl⟩
        walk_at "lst"
        rw [shl1]
        have x3 := ix2 (b := c) hi hj
        have eN : ((i : Nat) : Int) + ((2 ^ a : Nat) : Int) * ((j : Nat) : Int) = ((i + j * 2 ^ a : Nat) : Int) := by rw [← Int.natCast_mul, Nat.mul_comm]; omega
        refine ⟨by omega, cpow_ok (by omega), mulL (Int.natCast_nonneg _) (by omega), i + j * 2 ^ a, by rw [eN, List.length_range]; unfold ixN; rw [if_pos (Int.natCast_nonneg _), Int.toNat_natCast, if_pos (Int.ofNat_lt.mpr x3)], hk2 _ _ ⟨_, _, _, rfl, ?_⟩⟩
        have em : (i + j * 2 ^ a) % 2 ^ a = i := by rw [Nat.add_mul_mod_self_right, Nat.mod_eq_of_lt hi]
        have ed : (i + j * 2 ^ a) / 2 ^ a = j := by rw [Nat.add_mul_div_right _ _ (by omega), Nat.div_eq_of_lt hi, Nat.zero_add]
        rw [← List.map_set, set_rng]
        congr 4
        refine congrArg _ (List.map_congr_left fun z _ => ?_)
        by_cases e : z = i + j * 2 ^ a
        · rw [if_pos e, hFF, e]
          dsimp only
          rw [em, ed, if_pos (.inr ⟨rfl, by omega⟩)]
          rfl
        · rw [if_neg e, hFF]
          dsimp only
          have ne : ¬ (z % 2 ^ a = i ∧ z / 2 ^ a = j) := fun ⟨h1, h2⟩ => e (by have := Nat.mod_add_div z (2 ^ a); rw [h1, h2, Nat.mul_comm] at this; exact this.symm)
          generalize z % 2 ^ a = M at *
          generalize z / 2 ^ a = Q at *
          by_cases c1 : M < i ∨ (M = i ∧ Q < j)
          · rw [if_pos c1, if_pos (by omega)]
          · rw [if_neg c1, if_neg (by omega)]
    · rintro ρ m' ⟨v9, v10, v11, rfl, rfl⟩
      refine hkk _ _ ⟨_, _, _, _, rfl, ?_⟩
      congr 4
      refine congrArg _ (List.map_congr_left fun z hz => ?_)
      have hz := List.mem_range.mp hz
      rw [Nat.pow_add, Nat.mul_comm] at hz
      have zd : z / 2 ^ a < 2 ^ c := Nat.div_lt_of_lt_mul (by rw [Nat.mul_comm]; exact hz)
      rw [hFF]
      dsimp only
      clear hz
      generalize z % 2 ^ a = M at *
      generalize z / 2 ^ a = Q at *
      by_cases c1 : M < i ∨ (M = i ∧ Q < 2 ^ c)
      · rw [if_pos c1, if_pos (by omega)]
      · rw [if_neg c1, if_neg (by omega)]
  · rintro ρ m' ⟨v8, v9, v10, v11, rfl, rfl⟩
    walk_at "lst"
    have e : (List.range (2 ^ (a + c))).map (FF (2 ^ a) 0) = mulT L R a b c p := by
      rw [← mulT_ac]
      refine List.map_congr_left fun z _ => ?_
      rw [hFF]
      dsimp only
      rw [if_pos (.inl (Nat.mod_lt _ (by omega)))]
    rw [e]
    exact q
  · rw [List.nil_append]
    congr 4
    refine congrArg _ (List.map_congr_left fun z _ => ?_)
    rw [hFF]
    dsimp only
    rw [if_neg (fun h => by rcases h with h | ⟨_, h⟩ <;> exact absurd h (Nat.not_lt_zero _))]
theorem rd__law_times : ∀ ds m Φ Ψ, ds.length = 4 → C__law_times ds m Φ Ψ → W__law_times { nx := fun _ m' => retQ m Φ .non m', rt := retQ m Φ } (fun _ => retX m Ψ) (ds.map some ++ List.replicate (12 - ds.length) none) m := by
  intro ds m Φ Ψ hl h
  obtain ⟨L, R, a, b, c, p, rfl, hp, hL, hR, lL, lR, ha, hb, hc, q⟩ := h
  exact rd__law_timesM _ m (retQ m Φ) (retX m Ψ) hl ⟨L, R, a, b, c, p, rfl, hp, hL, hR, lL, lR, ha, hb, hc, retQ_lst (clAll_ints _) q⟩
theorem rd__law_table : ∀ ds m Φ Ψ, ds.length = 3 → C__law_table ds m Φ Ψ → W__law_table { nx := fun _ m' => Φ .non m', rt := Φ } (fun _ => Ψ) (ds.map some ++ List.replicate (5 - ds.length) none) m := by
  intro ds m Φ Ψ _ h
  obtain ⟨n, p, rfl, hs, hp, hn, q⟩ := h
  have hp1 := hp.1
  have hp2 := hp.2
  change W__law_table _ _ [some (.st 0), some (.int (n : Nat)), some (.int p), none, none] m
  unfold W__law_table
  walk_at "stp"
  refine ⟨by show 2 ≤ 16777216; decide, _, rfl, hs, Nat.succ_pos _, by show 2 ≤ 1000; decide, fun d hd => ?_⟩
  have hd : d = .int 2 ∨ d = .int p := by simpa using hd
  obtain ⟨t, rfl, t2, tp⟩ : ∃ t : Int, d = .int t ∧ 2 ≤ t ∧ t ≤ p := by
    rcases hd with rfl | rfl
    · exact ⟨2, rfl, by decide, hp.1⟩
    · exact ⟨p, rfl, hp.1, Int.le_refl _⟩
  walk_at "lst"
  rw [shl1]
  have n10 : 2 ^ n ≤ 2 ^ 10 := Nat.pow_le_pow_right (by decide) hn
  have n10 : 2 ^ n ≤ 1024 := n10
  have n1 : 1 ≤ 2 ^ n := Nat.one_le_two_pow
  refine ⟨cpow_ok (by omega), ⟨by omega, by omega⟩, ?_⟩
  rw [Int.toNat_natCast, rngD0]
  refine lcW_any (out := D.int) (fun _ (z : Int) => 0 ≤ z ∧ z < t) m (fun x m' Θ em h => ?_) (fun _ => rfl) _ [] (by rw [List.length_nil, List.length_range]; show _ ≤ 16777216; omega) (fun zs hz => ?_)
  · refine ⟨rfl, ?_⟩
    walk_at "dx"
    exact ⟨t, rfl, by rw [em]; exact hs, by omega, by omega, fun r r0 r1 => h r ⟨r0, r1⟩⟩
  · refine q zs (by rw [← hz.length, List.length_range]) (fun x hx => ?_)
    have := all2_mem hz x hx
    exact ⟨this.1, by omega⟩
theorem SmP.b {p : Int} (h : SmP p) : 3 ≤ p ∧ p ≤ 13 := by
  unfold SmP at h
  omega
theorem SmP.pm {p : Int} (h : SmP p) : PM p := by
  have := h.b
  exact ⟨by omega, by omega⟩
theorem SmP.pr {p : Int} (h : SmP p) : Prim p := by
  rcases h with rfl | rfl | rfl | rfl | rfl
  · exact prim_chk (p := 3) (k := 1) (by decide +kernel)
  · exact prim_chk (p := 5) (k := 2) (by decide +kernel)
  · exact prim_chk (p := 7) (k := 2) (by decide +kernel)
  · exact prim_chk (p := 11) (k := 3) (by decide +kernel)
  · exact prim_chk (p := 13) (k := 3) (by decide +kernel)
theorem SmP.half {p : Int} (h : SmP p) : 2 * ((p + 1) / 2) = p + 1 := by
  rcases h with rfl | rfl | rfl | rfl | rfl <;> decide
theorem invI_mul {x p : Int} (hp : SmP p) (h0 : 0 < x) (h1 : x < p) : Cg p (invI x p * x) 1 :=
  (Cg.mul Cg.mod .refl).trans (fermat_inv hp.pr fun z => by
    have := z.eq ⟨by omega, h1⟩ ⟨Int.le_refl 0, by omega⟩
    omega)
theorem invI_in {x p : Int} (hp : SmP p) : 0 ≤ invI x p ∧ invI x p < p := mod_in hp.pm.1
theorem invI_of {x y p : Int} (hp : SmP p) (h0 : 0 < x) (h1 : x < p) (y0 : 0 ≤ y) (y1 : y < p) (h : y * x % p = 1) : y = invI x p := by
  have hb := hp.b
  have e : Cg p (y * x) 1 := by
    show y * x % p = 1 % p
    rw [h, Int.emod_eq_of_lt (by decide) (by omega)]
  have e2 : Cg p ((y - invI x p) * x) 0 := by
    rw [Int.sub_mul]
    exact (Cg.sub e (invI_mul hp h0 h1)).trans (.of_eq (by omega))
  rcases hp.pr.mul_zero e2 with z | z
  · have : Cg p y (invI x p) := by
      have := Cg.add z (Cg.refl (a := invI x p))
      rw [Int.sub_add_cancel, Int.zero_add] at this
      exact this
    exact this.eq ⟨y0, y1⟩ (invI_in hp)
  · have := z.eq ⟨by omega, h1⟩ ⟨Int.le_refl 0, by omega⟩
    omega
theorem rd__law_at : ∀ ds m Φ Ψ, ds.length = 3 → C__law_at ds m Φ Ψ → W__law_at { nx := fun _ m' => Φ .non m', rt := Φ } (fun _ => Ψ) (ds.map some ++ List.replicate (8 - ds.length) none) m := by
  intro ds m Φ Ψ _ h
  obtain ⟨v, t, p, rfl, hl, hp, hv, t0, t1, q⟩ := h
  have hb := hp.b
  obtain ⟨x, y, z, rfl⟩ : ∃ x y z, v = [x, y, z] := by
    match v, hl with
    | [x, y, z], _ => exact ⟨x, y, z, rfl⟩
  have q : Φ (.int ((x * (t - 1) * (t - 2) * ((p + 1) / 2) - y * t * (t - 2) + z * t * (t - 1) * ((p + 1) / 2)) % p)) m := q
  change W__law_at _ _ [some (.lst [.int x, .int y, .int z]), some (.int t), some (.int p), none, none, none, none, none] m
  unfold W__law_at
  walk_at "dx"
  unfold dgUnl
  walk_at "dx"
  refine ⟨⟨by decide, by decide⟩, ?_⟩
  walk_at "dx"
  have ms : ∀ i j : Int, -100 < j → j < 100 → MulC i j := fun i j h1 h2 => .inr (.inl ⟨by omega, by omega⟩)
  exact ⟨ms _ _ (by omega) (by omega), ms _ _ (by omega) (by omega), ms _ _ (by omega) (by omega), ms _ _ (by omega) (by omega), ms _ _ (by omega) (by omega), ms _ _ (by omega) (by omega), ms _ _ (by omega) (by omega), ms _ _ (by omega) (by omega), by omega, q⟩
theorem rd__law_inverse : ∀ ds m Φ Ψ, ds.length = 2 → C__law_inverse ds m Φ Ψ → W__law_inverse { nx := fun _ m' => Φ .non m', rt := Φ } (fun _ => Ψ) (ds.map some ++ List.replicate (3 - ds.length) none) m := by
  intro ds m Φ Ψ _ h
  obtain ⟨x, p, rfl, hp, x0, x1, q⟩ := h
  have hb := hp.b
  change W__law_inverse _ _ [some (.int x), some (.int p), none] m
  unfold W__law_inverse
  walk_at "dx"
  refine ⟨⟨by decide, by decide, by omega, by omega⟩, ?_⟩
  have er : rngD 1 (p - 1).toNat = ((List.range (p - 1).toNat).map fun i : Nat => (1 : Int) + (i : Nat)).map D.int := by
    rw [List.map_map]
    rfl
  rw [er]
  refine lcW_fil (inj := D.int) (out := D.int) (fun k : Int => k) (fun k : Int => decide (k * x % p = 1)) m _ ?_ (fun _ => rfl) (by rw [List.length_map, List.length_range]; show _ ≤ 16777216; omega) ?_
  · intro k hk m2 Θ Υ hm y1 y2
    walk_at "dx"
    refine ⟨.inr (.inl ⟨by omega, by omega⟩), by omega, ?_⟩
    by_cases e : k * x % p = 1
    · rw [if_pos e]
      exact y1 (decide_eq_true e)
    · rw [if_neg e]
      exact y2 (decide_eq_false e)
  · rw [List.map_id']
    have key : ∀ y : Int, y ∈ (((List.range (p - 1).toNat).map fun i : Nat => (1 : Int) + (i : Nat)).filter fun k : Int => decide (k * x % p = 1)) → y = invI x p := fun y hy => by
      obtain ⟨h1, h2⟩ := List.mem_filter.mp hy
      obtain ⟨i, hi, rfl⟩ := List.mem_map.mp h1
      have := List.mem_range.mp hi
      exact invI_of hp x0 x1 (by omega) (by omega) (of_decide_eq_true h2)
    have mem : invI x p ∈ (((List.range (p - 1).toNat).map fun i : Nat => (1 : Int) + (i : Nat)).filter fun k : Int => decide (k * x % p = 1)) := by
      have hi := invI_in (x := x) hp
      have e : invI x p * x % p = 1 := by
        have : invI x p * x % p = 1 % p := invI_mul hp x0 x1
        rw [this, Int.emod_eq_of_lt (by decide) (by omega)]
      have n0 : invI x p ≠ 0 := fun z => by
        rw [z, Int.zero_mul, Int.zero_emod] at e
        exact absurd e (by decide)
      refine List.mem_filter.mpr ⟨List.mem_map.mpr ⟨(invI x p - 1).toNat, List.mem_range.mpr (by omega), by omega⟩, decide_eq_true e⟩
    cases hf : (((List.range (p - 1).toNat).map fun i : Nat => (1 : Int) + (i : Nat)).filter fun k : Int => decide (k * x % p = 1)) with
    | nil =>
      rw [hf] at mem
      cases mem
    | cons y ys =>
      rw [hf] at key
      rw [key y List.mem_cons_self]
      exact ⟨_, atI_cons0, q⟩
theorem rd__law_pair : ∀ ds m Φ Ψ, ds.length = 3 → C__law_pair ds m Φ Ψ → W__law_pair { nx := fun _ m' => Φ .non m', rt := Φ } (fun _ => Ψ) (ds.map some ++ List.replicate (5 - ds.length) none) m := by
  intro ds m Φ Ψ _ h
  obtain ⟨u, w, cl, p, rfl, hp, u0, u1, w0, w1, c0, c1, q⟩ := h
  have hb := hp.b
  change W__law_pair _ _ [some (.lst [.int u, .int w]), some (.int cl), some (.int p), none, none] m
  unfold W__law_pair
  walk_at "dx"
  unfold dgUnl
  walk_at "dx"
  refine ⟨.inr (.inl ⟨by omega, by omega⟩), by omega, ?_⟩
  unfold pairF at q
  by_cases e1 : u * w % p = cl
  · rw [if_pos e1] at q ⊢
    exact ⟨by decide, q⟩
  rw [if_neg e1] at q ⊢
  by_cases e2 : u = 0
  rotate_left
  · rw [if_pos e2] at q ⊢
    refine ⟨u, p, rfl, hp, by omega, u1, ?_⟩
    walk_at "dx"
    have := invI_in (x := u) hp
    exact ⟨.inr (.inl ⟨by omega, by omega⟩), by omega, by decide, q⟩
  rw [if_neg (fun z => z e2)] at q ⊢
  by_cases e3 : w = 0
  rotate_left
  · rw [if_pos e3] at q ⊢
    refine ⟨w, p, rfl, hp, by omega, w1, ?_⟩
    walk_at "dx"
    have := invI_in (x := w) hp
    exact ⟨.inr (.inl ⟨by omega, by omega⟩), by omega, by decide, q⟩
  rw [if_neg (fun z => z e3)] at q ⊢
  exact ⟨by decide, q⟩
theorem retM {sm : Nat} {base : Int → List MO} {s s' : Int} {L : List MO} {Φ : D → MM → Prop} {B : List Int} (hk : kept ⟨base s, sm⟩ (base s')) (q : Φ (.lst (B.map D.int)) ⟨base s', sm⟩) : retQ ⟨base s, sm⟩ Φ (.lst (B.map D.int)) ⟨base s' ++ L, sm⟩ :=
  ⟨base s', L, _, rfl, hk, .inl rfl, clAll_ints B, q⟩
theorem sm_inv {p g : Int} (hp : SmP p) (g1 : 1 < g) (g2 : g < p) : 0 < g * (g - 1) * ((p + 1) / 2) % p ∧ g * (g - 1) * ((p + 1) / 2) % p < p := by
  have hb := hp.b
  have hm : 0 ≤ g * (g - 1) * ((p + 1) / 2) % p ∧ g * (g - 1) * ((p + 1) / 2) % p < p := mod_in (by omega)
  refine ⟨?_, hm.2⟩
  rcases Int.lt_or_eq_of_le hm.1 with z | z
  · exact z
  exfalso
  have nz : ∀ a : Int, 0 < a → a < p → ¬ Cg p a 0 := fun a a0 a1 z => by
    have := z.eq ⟨by omega, a1⟩ ⟨Int.le_refl 0, by omega⟩
    omega
  have c : Cg p (g * (g - 1) * ((p + 1) / 2)) 0 := by
    show _ % p = 0 % p
    rw [← z, Int.zero_emod]
  rcases hp.pr.mul_zero c with c | c
  · rcases hp.pr.mul_zero c with c | c
    · exact nz _ (by omega) (by omega) c
    · exact nz _ (by omega) (by omega) c
  · exact nz _ (by omega) (by omega) c
/-- draws from the script's state -/
theorem drm0 {M : List MO} : DrM (.st 0) (fun _ => M) 1 (fun _ => True) (fun _ n r _ => 0 ≤ r ∧ r < n) where
  dr s L n Φ Ψ _ h0 h1 h := .inl ⟨n, rfl, rfl, h0, by omega, fun r r0 r1 => h r 0 r0 r1 trivial ⟨r0, r1⟩⟩
  len _ _ := rfl
  kp _ _ := kept.rfl
def stO (s : Int) : MO := .lst [.lst [], .int s]
/-- draws from a state that the law has made -/
theorem drmE {M : List MO} {k sm : Nat} (hk : k < M.length) : DrM (.hnd k) (fun s => M.set k (stO s)) sm (fun s => 0 ≤ s ∧ s < 2 ^ 40) (fun s n r s' => r = drwI s n ∧ s' = mixI s) where
  dr s L n Φ Ψ os h0 h1 h := .inr ⟨k, s, n, rfl, h0, h1, os.1, os.2, by
    show (M.set k (stO s) ++ L)[k]? = _
    rw [List.getElem?_append_left (by rw [List.length_set]; exact hk), List.getElem?_set_self hk]
    rfl, by
    have hm := mixI_in s
    have hd := drwI_in (s := s) h0
    have := h (drwI s n) (mixI s) hd.1 hd.2 ⟨hm.1, by omega⟩ ⟨rfl, rfl⟩
    have e : (M.set k (stO s) ++ L).set k (.lst [.lst [], .int (mixI s)]) = M.set k (stO (mixI s)) ++ L := by
      rw [List.set_append_left _ _ (by rw [List.length_set]; exact hk), List.set_set]
      rfl
    show Φ _ ⟨(M.set k (stO s) ++ L).set k _, sm⟩
    rw [e]
    exact this⟩
  len s s' := by rw [List.length_set, List.length_set]
  kp s s' := by
    have := (kept.rfl (m := ⟨M.set k (stO s), sm⟩)).set (k := k) (o := stO s') rfl
    rw [List.set_set] at this
    exact this
theorem blfL_ok {mn : List Int} {cl g p d0 d2 : Int} {b : Bool} (hp : 2 ≤ p) (c0 : 0 ≤ cl) (c1 : cl < p) : (blfL mn cl g p d0 d2 b).length = 3 ∧ InP p (blfL mn cl g p d0 d2 b) ∧ (Dl.gi (blfL mn cl g p d0 d2 b) 0 + Dl.gi (blfL mn cl g p d0 d2 b) 1) % p = cl := by
  refine ⟨rfl, fun x hx => ?_, ?_⟩
  · unfold blfL at hx
    simp only [List.mem_cons, List.not_mem_nil, or_false] at hx
    rcases hx with rfl | rfl | rfl <;> exact mod_in hp
  · have key : ∀ a b m0 : Int, ((a + m0) % p + (b + ((cl - a - b) % p - m0) % p) % p) % p = cl := fun a b m0 => by
      have : Cg p ((a + m0) % p + (b + ((cl - a - b) % p - m0) % p) % p) cl := by
        refine (Cg.add Cg.mod (Cg.mod.trans (Cg.add .refl (Cg.mod.trans (Cg.sub Cg.mod .refl))))).trans (.of_eq (by omega))
      have e : ((a + m0) % p + (b + ((cl - a - b) % p - m0) % p) % p) % p = cl % p := this
      rw [e, Int.emod_eq_of_lt c0 c1]
    exact key _ _ _
theorem BlfR.fits {ok : Int → Prop} {R : Int → Int → Int → Int → Prop} {s : Int} {mn : List Int} {cl g p : Int} {B : List Int} (h : BlfR ok R s mn cl g p B) (hp : 2 ≤ p) (hl : mn.length = 3) (hv : InP p mn) (c0 : 0 ≤ cl) (c1 : cl < p) : BlfOK cl p B := by
  rcases h with ⟨e, _, rfl⟩ | ⟨s1, _, d0, s2, d2, s3, b, s4, _, _, _, _, _, rfl⟩
  · refine ⟨hl, hv, ?_⟩
    have : Cg p (Dl.gi B 0 + Dl.gi B 1) cl := by
      have z : Cg p (cl - Dl.gi B 0 - Dl.gi B 1) 0 := by
        show _ % p = 0 % p
        rw [e, Int.zero_emod]
      have := Cg.sub (Cg.refl (a := cl)) z
      rw [Int.sub_zero] at this
      exact (Cg.of_eq (by omega)).trans this
    have e2 : (Dl.gi B 0 + Dl.gi B 1) % p = cl % p := this
    rw [e2, Int.emod_eq_of_lt c0 c1]
  · exact blfL_ok hp c0 c1
theorem blfL_third {mn : List Int} {cl g p d0 d2 : Int} {b b' : Bool} (h : g > 1 → b = b') : blfL mn cl g p d0 d2 b = blfL mn cl g p d0 d2 b' := by
  by_cases e : g > 1
  · rw [h e]
  · unfold blfL
    simp only [e, false_and, if_false]
theorem blfI_of {s : Int} {mn : List Int} {cl g p : Int} {B : List Int} {ok : Int → Prop} (h : BlfR ok (fun s n r s' => r = drwI s n ∧ s' = mixI s) s mn cl g p B) : B = blfI s mn cl g p := by
  unfold blfI
  rcases h with ⟨e, ⟨r, s1, ⟨rfl, rfl⟩, h0⟩, rfl⟩ | ⟨s1, h1, d0, s2, d2, s3, b, s4, ⟨rfl, rfl⟩, ⟨rfl, rfl⟩, _, _, h3, rfl⟩
  · rw [if_pos ⟨e, h0⟩]
  · rcases h1 with ⟨e, r, ⟨rfl, rfl⟩, h0⟩ | ⟨e, rfl⟩
    · rw [if_neg (fun z => h0 z.2)]
      simp only [if_pos e]
      exact blfL_third fun z => by rw [(h3 z).1]
    · rw [if_neg (fun z => e z.1)]
      simp only [if_neg e]
      exact blfL_third fun z => by rw [(h3 z).1]
theorem atV_val {v : List Int} {t p : Int} (hp : SmP p) (hl : v.length = 3) (hv : InP p v) (t0 : 0 ≤ t) : atV v t p = valV v t p := by
  obtain ⟨x, y, z, rfl⟩ : ∃ x y z, v = [x, y, z] := by
    match v, hl with
    | [x, y, z], _ => exact ⟨x, y, z, rfl⟩
  have hb := hp.b
  have hh := hp.half
  obtain ⟨f, hf⟩ : ∃ f : Int → Int, f = fun t => x * (t - 1) * (t - 2) * ((p + 1) / 2) - y * t * (t - 2) + z * t * (t - 1) * ((p + 1) / 2) := ⟨_, rfl⟩
  obtain ⟨H, hH⟩ : ∃ H, H = (p + 1) / 2 := ⟨_, rfl⟩
  have pf : Pol p 2 f := ⟨[x * 2 * H, 2 * y - 3 * x * H - z * H, x * H - y + z * H], Nat.le_refl 3, fun t => .of_eq (by
    rw [hf, ← hH]
    show _ = x * 2 * H + t * (2 * y - 3 * x * H - z * H + t * (x * H - y + z * H + t * 0))
    grind)⟩
  have f0 : f (0 : Nat) % p = x := by
    have : Cg p (f (0 : Nat)) x := by
      rw [hf]
      refine (Cg.of_eq (?_ : _ = x + p * x)).trans (Cg.trans (Cg.add .refl ?_) (.of_eq (Int.add_zero x)))
      · show x * (0 - 1) * (0 - 2) * ((p + 1) / 2) - y * 0 * (0 - 2) + z * 0 * (0 - 1) * ((p + 1) / 2) = x + p * x
        have : x * (0 - 1) * (0 - 2) * ((p + 1) / 2) = x * (2 * ((p + 1) / 2)) := by grind
        rw [this, hh]
        grind
      · show p * x % p = 0 % p
        rw [Int.mul_emod_right, Int.zero_emod]
    have e : f (0 : Nat) % p = x % p := this
    rw [e]
    have := hv x (by simp)
    exact Int.emod_eq_of_lt this.1 this.2
  have f1 : f (1 : Nat) % p = y := by
    have e : f (1 : Nat) = y := by
      rw [hf]
      show x * (1 - 1) * (1 - 2) * ((p + 1) / 2) - y * 1 * (1 - 2) + z * 1 * (1 - 1) * ((p + 1) / 2) = y
      grind
    rw [e]
    have := hv y (by simp)
    exact Int.emod_eq_of_lt this.1 this.2
  have f2 : f (2 : Nat) % p = z := by
    have : Cg p (f (2 : Nat)) z := by
      rw [hf]
      refine (Cg.of_eq (?_ : _ = z + p * z)).trans (Cg.trans (Cg.add .refl ?_) (.of_eq (Int.add_zero z)))
      · show x * (2 - 1) * (2 - 2) * ((p + 1) / 2) - y * 2 * (2 - 2) + z * 2 * (2 - 1) * ((p + 1) / 2) = z + p * z
        have : z * 2 * (2 - 1) * ((p + 1) / 2) = z * (2 * ((p + 1) / 2)) := by grind
        rw [this, hh]
        grind
      · show p * z % p = 0 % p
        rw [Int.mul_emod_right, Int.zero_emod]
    have e : f (2 : Nat) % p = z % p := this
    rw [e]
    have := hv z (by simp)
    exact Int.emod_eq_of_lt this.1 this.2
  have key := valV_polR hp.pr (z := t) pf (by show ((3 : Nat) : Int) ≤ p; omega) t0
  have ev : ((List.range (2 + 1)).map fun t : Nat => f (t : Nat) % p) = [x, y, z] := by
    show [f (0 : Nat) % p, f (1 : Nat) % p, f (2 : Nat) % p] = _
    rw [f0, f1, f2]
  rw [ev] at key
  rw [key, hf]
  rfl
theorem rd__law_bluff : ∀ ds m Φ Ψ, ds.length = 5 → C__law_bluff ds m Φ Ψ → W__law_bluff { nx := fun _ m' => retQ m Φ .non m', rt := retQ m Φ } (fun _ => retX m Ψ) (ds.map some ++ List.replicate (10 - ds.length) none) m := by
  intro ds m Φ Ψ _ h
  obtain ⟨st, base, sm, ok, R, s, mn, cl, g, p, DM, rfl, rfl, os, hp, hl, hv, c0, c1, g0, g1, q⟩ := h
  have hb := hp.b
  obtain ⟨x, y, z, rfl⟩ : ∃ x y z, mn = [x, y, z] := by
    match mn, hl with
    | [x, y, z], _ => exact ⟨x, y, z, rfl⟩
  have x0 := hv x (by simp)
  have y0 := hv y (by simp)
  have z0 := hv z (by simp)
  have ms : ∀ i j : Int, -100 < j → j < 100 → MulC i j := fun i j h1 h2 => .inr (.inl ⟨by omega, by omega⟩)
  change W__law_bluff _ _ [some st, some (.lst [.int x, .int y, .int z]), some (.int cl), some (.int g), some (.int p), none, none, none, none, none] _
  unfold W__law_bluff
  have dr0 : ∀ s n (Φ : D → MM → Prop) (Ψ : XP), ok s → 0 < n → n < 2 ^ 30 → (∀ r s', 0 ≤ r → r < n → ok s' → R s n r s' → Φ (.int r) ⟨base s', sm⟩) → C_drawX [st, .int n] ⟨base s, sm⟩ Φ Ψ := fun s n Φ Ψ a b c h => by
    have := DM.dr s [] n Φ Ψ a b c (fun r s' h1 h2 h3 h4 => by rw [List.append_nil]; exact h r s' h1 h2 h3 h4)
    rw [List.append_nil] at this
    exact this
  walk_at "stp"
  refine ⟨.int x, rfl, ?_⟩
  walk_at "dx"
  refine ⟨.int y, rfl, ?_⟩
  walk_at "dx"
  obtain ⟨lk, hlk⟩ : ∃ lk, lk = (cl - x - y) % p := ⟨_, rfl⟩
  have lk0 : 0 ≤ lk ∧ lk < p := by rw [hlk]; exact mod_in (by omega)
  refine ⟨by omega, ?_⟩
  rw [← hlk]
  have q : ∀ B s', BlfR ok R s [x, y, z] cl g p B → Φ (.lst (B.map D.int)) ⟨base s', sm⟩ := q
  have elk : (cl - Dl.gi [x, y, z] 0 - Dl.gi [x, y, z] 1) % p = lk := hlk.symm
  subst h1
  refine dSeq_k fun k1 h1 => ?_
  have rest : ∀ s1, ok s1 → ((lk = 0 ∧ ∃ r, R s 4 r s1 ∧ ¬ 0 < r) ∨ (lk ≠ 0 ∧ s1 = s)) → k1 [some st, some (D.lst [D.int x, D.int y, D.int z]), some (D.int cl), some (D.int g), some (D.int p), some (D.int lk), none, none, none, none] ⟨base s1, sm⟩ := by
    intro s1 os1 hs1
    subst h1
    walk_at "stp"
    refine ⟨⟨by decide, by decide⟩, ?_⟩
    walk_at "nxt"
    refine dr0 s1 p _ _ os1 (by omega) (by omega) fun d0 s2 d00 d01 os2 R1 => ?_
    walk_at "dx"
    refine dr0 s2 p _ _ os2 (by omega) (by omega) fun d2 s3 d20 d21 os3 R2 => ?_
    walk_at "dx"
    refine ⟨by decide, ?_⟩
    have gN : ∀ s' X, (base s' ++ [X])[(base s3).length]? = some X := fun s' X => by
      rw [DM.len s3 s', List.getElem?_append_right (Nat.le_refl _), Nat.sub_self]
      rfl
    have sN : ∀ s' X Y, (base s' ++ [X]).set (base s3).length Y = base s' ++ [Y] := fun s' X Y => by
      rw [DM.len s3 s', List.set_append_right _ _ (Nat.le_refl _), Nat.sub_self]
      rfl
    obtain ⟨hf, hhf⟩ : ∃ hf, hf = (p + 1) / 2 := ⟨_, rfl⟩
    rw [← hhf]
    subst h1
    refine dSeq_k fun k1 h1 => ?_
    obtain ⟨m0, hm0⟩ : ∃ m0, m0 = if g < 2 then lk * g else d0 := ⟨_, rfl⟩
    have go : k1 [some st, some (D.lst [D.int x, D.int y, D.int z]), some (D.int cl), some (D.int g), some (D.int p), some (D.int lk), some (D.int hf), some (D.hnd (base s3).length), none, none] ⟨base s3 ++ [.lst [.int m0, .int 0, .int d2]], sm⟩ := by
      have m00 : 0 ≤ m0 ∧ m0 < p := by
        rw [hm0]
        split
        · have : g = 0 ∨ g = 1 := by omega
          rcases this with rfl | rfl <;> omega
        · omega
      subst h1
      walk_at "stp"
      refine ⟨_, rfl, ?_⟩
      walk_at "dx"
      refine ⟨by omega, 1, rfl, ?_⟩
      obtain ⟨m1, hm1⟩ : ∃ m1, m1 = (lk - m0) % p := ⟨_, rfl⟩
      rw [← hm1]
      have m10 : 0 ≤ m1 ∧ m1 < p := by rw [hm1]; exact mod_in (by omega)
      subst h1
      refine dSeq_k fun k1 h1 => ?_
      have cond : ((cl - Dl.gi [x, y, z] 0 - Dl.gi [x, y, z] 1) % p = 0 ∧ ∃ r, R s 4 r s1 ∧ ¬ 0 < r) ∨ ((cl - Dl.gi [x, y, z] 0 - Dl.gi [x, y, z] 1) % p ≠ 0 ∧ s1 = s) := by rw [elk]; exact hs1
      have fin : ∀ (m2 s5 b s4 : Int) (v8 : Option D), (g > 1 → R s3 3 b s4) → m2 = (if g > 1 ∧ decide (0 < b) = true then (m1 * g * (g - 2) - m0 * (g - 1) * (g - 2) * hf) * invI (g * (g - 1) * hf % p) p % p else d2) → k1 [some st, some (D.lst [D.int x, D.int y, D.int z]), some (D.int cl), some (D.int g), some (D.int p), some (D.int lk), some (D.int hf), some (D.hnd (base s3).length), v8, none] ⟨base s5 ++ [.lst [.int m0, .int m1, .int m2]], sm⟩ := by
        intro m2 s5 b s4 v8 hRb hm2
        have eB : blfL [x, y, z] cl g p d0 d2 (decide (0 < b)) = [(x + m0) % p, (y + m1) % p, (z + m2) % p] := by
          rw [hm2, hm1, hm0, hhf, hlk]
          rfl
        have := q _ s5 (.inr ⟨s1, cond, d0, s2, d2, s3, b, s4, R1, R2, ⟨d00, d01⟩, ⟨d20, d21⟩, hRb, rfl⟩)
        rw [eB] at this
        subst h1
        have key := retM (L := [.lst [.int m0, .int m1, .int m2]]) (DM.kp s s5) this
        walk_at "dx"
        refine ⟨⟨by decide, by decide⟩, ?_⟩
        show lcW _ _ _ _ _ [D.int 0, D.int 1, D.int 2] [] _
        have gN2 : ∀ s' X Y, (base s' ++ [X] ++ [Y])[(base s3).length]? = some X := fun s' X Y => by
          rw [DM.len s3 s', List.append_assoc, List.getElem?_append_right (Nat.le_refl _), Nat.sub_self]
          rfl
        unfold lcW
        walk_at "dx"
        refine ⟨_, rfl, ?_⟩
        simp only [gN2, moL_lst]
        refine ⟨_, rfl, ?_⟩
        dsimp only
        refine ⟨by omega, by show _ < 16777216; simp, rfl, ?_⟩
        unfold lcW
        walk_at "dx"
        refine ⟨_, rfl, ?_⟩
        simp only [gN2, moL_lst]
        refine ⟨_, rfl, ?_⟩
        dsimp only
        refine ⟨by omega, by show _ < 16777216; simp, rfl, ?_⟩
        unfold lcW
        walk_at "dx"
        refine ⟨_, rfl, ?_⟩
        simp only [gN2, moL_lst]
        refine ⟨_, rfl, ?_⟩
        dsimp only
        refine ⟨by omega, by show _ < 16777216; simp, rfl, ?_⟩
        unfold lcW
        exact key
      have lkz : ∀ s' : Int, (base s').length = (base s3).length := fun s' => DM.len s' s3
      walk_at "dx"
      by_cases eg : 1 < g
      · rw [if_pos eg]
        refine DM.dr s3 _ 3 _ _ os3 (by decide) (by decide) fun b s4 b0 b1 os4 R3 => ?_
        walk_at "dx"
        by_cases eb : 0 < b
        · rw [if_pos (by omega)]
          have e4 := fin ((m1 * g * (g - 2) - m0 * (g - 1) * (g - 2) * hf) * invI (g * (g - 1) * hf % p) p % p) s4 b s4 (some (.int (m1 * g * (g - 2) - m0 * (g - 1) * (g - 2) * hf))) (fun _ => R3) (by rw [if_pos ⟨eg, decide_eq_true eb⟩])
          simp only [gN, sN, moL_lst]
          refine ⟨_, rfl, ?_⟩
          walk_at "dx"
          refine ⟨ms _ _ (by omega) (by omega), ms _ _ (by omega) (by omega), ?_⟩
          simp only [gN, sN, moL_lst]
          refine ⟨_, rfl, ?_⟩
          walk_at "dx"
          refine ⟨ms _ _ (by omega) (by omega), ms _ _ (by omega) (by omega), ms _ _ (by omega) (by omega), ms _ _ (by omega) (by omega), ms _ _ (by omega) (by omega), by omega, ?_⟩
          have si := sm_inv hp eg g1
          rw [← hhf] at si
          refine ⟨_, p, rfl, hp, si.1, si.2, ?_⟩
          walk_at "dx"
          simp only [gN, sN, moL_lst]
          have := invI_in (x := g * (g - 1) * hf % p) hp
          exact ⟨ms _ _ (by omega) (by omega), by omega, 2, rfl, e4⟩
        · rw [if_neg (by omega)]
          exact fin d2 s4 b s4 none (fun _ => R3) (by rw [if_neg (fun z => eb (of_decide_eq_true z.2))])
      · rw [if_neg eg]
        exact fin d2 s3 0 0 none (fun z => absurd z eg) (by rw [if_neg (fun z => eg z.1)])
    walk_at "dx"
    by_cases eg : g < 2
    · rw [if_pos eg]
      refine ⟨ms _ _ (by omega) (by omega), 0, rfl, ?_⟩
      rw [if_pos eg] at hm0
      rw [hm0] at go
      exact go
    · rw [if_neg eg]
      rw [if_neg eg] at hm0
      rw [hm0] at go
      exact go
  walk_at "dx"
  by_cases e : lk = 0
  · rw [if_pos e]
    refine dr0 s 4 _ _ os (by decide) (by decide) fun r s1 r0 r1 os1 Rr => ?_
    walk_at "dx"
    by_cases e2 : 0 < r
    · rw [if_pos (by omega)]
      have := q [x, y, z] s1 (.inl ⟨by rw [elk]; exact e, ⟨r, s1, Rr, e2⟩, rfl⟩)
      have z := retM (L := []) (DM.kp s s1) this
      rw [List.append_nil] at z
      exact z
    · rw [if_neg (by omega)]
      exact rest s1 os1 (.inl ⟨e, r, Rr, e2⟩)
  · rw [if_neg e]
    exact rest s os (.inr ⟨e, rfl⟩)
theorem sum_in {Bd : Int} : ∀ xs : List Int, (∀ x ∈ xs, 0 ≤ x ∧ x ≤ Bd) → 0 ≤ xs.sum ∧ xs.sum ≤ xs.length * Bd
  | [], _ => by simp
  | x :: xs, h => by
    have ih := sum_in xs fun y hy => h y (List.mem_cons_of_mem _ hy)
    have hx := h x List.mem_cons_self
    rw [List.sum_cons, List.length_cons, Int.natCast_succ, Int.add_mul, Int.one_mul]
    omega
theorem sdE_in {seed p : Int} {ths : List Int} {n : Nat} (hp : SmP p) (ht : InP p ths) (hn : n < ths.length + 1) (s0 : 0 ≤ seed) (s1 : seed ≤ 100001) (h6 : ths.length ≤ 6 := by omega) : 0 ≤ sdE seed ths n ∧ sdE seed ths n < 2 ^ 40 := by
  have hb := hp.b
  unfold sdE
  have := sum_in (Bd := 1000000) ((List.range n).map fun j : Nat => (Dl.gi ths (j : Nat) + 1) * 343 * ((j : Nat) + 3)) fun x hx => by
    obtain ⟨j, hj, rfl⟩ := List.mem_map.mp hx
    have hj := List.mem_range.mp hj
    have g := gi_in ht (z := (j : Nat)) (by omega) (by omega)
    have e1 : (Dl.gi ths (j : Nat) + 1) * 343 ≤ 14 * 343 := by omega
    have e2 := Int.mul_le_mul e1 (show ((j : Nat) : Int) + 3 ≤ 9 by omega) (by omega) (by decide)
    exact ⟨Int.mul_nonneg (by omega) (by omega), by omega⟩
  rw [List.length_map, List.length_range] at this
  have hn2 : (n : Int) * 1000000 ≤ 6000000 := by omega
  omega
theorem tkP_lens {L R C : List Int} {a b c : Nat} {ths : List Int} {p : Int} (H : TkP L R C a b c ths p) : (ths.take a).length = a ∧ ((ths.take (a + c)).drop a).length = c ∧ (ths.drop (a + c)).length = b ∧ (ths.take (a + c)).length = a + c := by
  have tl := H.tl
  refine ⟨?_, ?_, ?_, ?_⟩
  · rw [List.length_take]; omega
  · rw [List.length_drop, List.length_take]; omega
  · rw [List.length_drop]; omega
  · rw [List.length_take]; omega
theorem okE_sD {n : Nat} {x : String} (h : PyData.strOk (PySem.Str.ofString x) = true) : okE n (sD x) = true := okE_str h
theorem dueV_facts {v mn : List Int} : Dl.plD (dueV v mn) = true ∧ okE 64 (dueV v mn) = true ∧ eqD (dueV v mn) (.tup [sD "believed"]) = decide (v = mn) := by
  unfold dueV
  by_cases e : v = mn
  · rw [if_pos e, decide_eq_true e]
    have ok : okE 64 (.tup [sD "believed"]) = true := okE_tup fun d hd => by
      rw [List.mem_singleton.mp hd]
      exact okE_sD (by decide +kernel)
    exact ⟨by decide +kernel, ok, eqD_self ok⟩
  · rw [if_neg e, decide_eq_false e]
    by_cases e2 : Dl.gi v 0 = Dl.gi mn 0
    · rw [if_pos e2]
      refine ⟨by decide +kernel, okE_tup fun d hd => ?_, rfl⟩
      rcases List.mem_cons.mp hd with rfl | hd
      · exact okE_sD (by decide +kernel)
      · rw [List.mem_singleton.mp hd]
        exact okE_sD (by decide +kernel)
    · rw [if_neg e2]
      refine ⟨by decide +kernel, okE_tup fun d hd => ?_, rfl⟩
      rcases List.mem_cons.mp hd with rfl | hd
      · exact okE_sD (by decide +kernel)
      · rw [List.mem_singleton.mp hd]
        exact okE_sD (by decide +kernel)
theorem plD_pl : ∀ pl : Option (Option Nat), Dl.plD (plD pl) = true
  | none => rfl
  | some none => by decide +kernel
  | some (some k) => by
    show Dl.plDs [sD "round", .int (k : Nat)] = true
    exact plDs_of fun d hd => by
      rcases List.mem_cons.mp hd with rfl | hd
      · decide +kernel
      · rw [List.mem_singleton.mp hd]
        rfl
theorem plD_rows (P : List (List Int)) : Dl.plD (.lst (P.map intL)) = true := plDs_of fun d hd => by
  obtain ⟨r, _, rfl⟩ := List.mem_map.mp hd
  exact plD_ints r
theorem plD_tk {P : List (List Int)} {v mn : List Int} {pd : D} (h : Dl.plD pd = true) : Dl.plD (.tup [pairD P v, dueV v mn, pd]) = true := by
  refine plDs_of (ds := [pairD P v, dueV v mn, pd]) fun d hd => ?_
  simp only [List.mem_cons, List.not_mem_nil, or_false] at hd
  rcases hd with rfl | rfl | rfl
  · refine plDs_of (ds := [.lst (P.map intL), .lst (v.map D.int)]) fun d hd => ?_
    simp only [List.mem_cons, List.not_mem_nil, or_false] at hd
    rcases hd with rfl | rfl
    · exact plD_rows P
    · exact plD_ints v
  · exact dueV_facts.1
  · exact h
theorem rd__law_talk : ∀ ds m Φ Ψ, ds.length = 8 → C__law_talk ds m Φ Ψ → W__law_talk { nx := fun _ m' => retQ m Φ .non m', rt := retQ m Φ } (fun _ => retX m Ψ) (ds.map some ++ List.replicate (24 - ds.length) none) m := by
  intro ds m Φ Ψ _ h
  obtain ⟨L, R, C, a, b, c, ths, p, seed, rfl, hs, H, sd0, sd1, q⟩ := h
  obtain ⟨M, sm⟩ := m
  dsimp only at hs
  subst hs
  have hp := H.sp
  have hb := hp.b
  have ha2 := H.a2
  have hb2 := H.b2
  have hc2 := H.c2
  obtain ⟨l1, l2, l3, l4⟩ := tkP_lens H
  have tl := H.tl
  have ti := H.ti
  have tti : InP p (ths.take (a + c)) := fun x hx => ti x (List.mem_of_mem_take hx)
  have tdi : InP p (ths.drop (a + c)) := fun x hx => ti x (List.mem_of_mem_drop hx)
  change W__law_talk _ _ [some (.st 0), some (.lst (L.map D.int)), some (.lst (R.map D.int)), some (.lst (C.map D.int)), some (szD a b c), some (.lst (ths.map D.int)), some (.int p), some (.int seed), none, none, none, none, none, none, none, none, none, none, none, none, none, none, none, none] _
  unfold W__law_talk szD
  walk_at "stp"
  walk_at "nxt"
  rw [show ((a : Nat) : Int) + (c : Nat) = ((a + c : Nat) : Int) by omega, cutT (by rw [List.length_map]; omega), ← List.map_take]
  walk_at "nxt"
  refine ⟨L, R, a, b, c, p, rfl, hp.pm, H.li, H.ri, H.ll, H.rl, by omega, by omega, by omega, ?_⟩
  obtain ⟨T, hT⟩ : ∃ T, T = mulT L R a b c p := ⟨_, rfl⟩
  have Tl : T.length = 2 ^ (a + c) := by rw [hT, mulT_len, Nat.pow_add, Nat.mul_comm]
  have Tin : InP p T := by rw [hT]; exact mulT_in (by omega)
  rw [← hT]
  walk_at "nxt"
  refine ⟨C, ths.take (a + c), p, rfl, hp.pm, H.ci, tti, by rw [l4]; exact H.cl, by omega, ?_⟩
  walk_at "nxt"
  refine ⟨T, ths.take (a + c), p, rfl, hp.pm, Tin, tti, by rw [l4]; exact Tl, by omega, ?_⟩
  walk_at "dx"
  obtain ⟨cl0, hcl0⟩ : ∃ cl0, cl0 = mle C (ths.take (a + c)) % p := ⟨_, rfl⟩
  obtain ⟨pl0, hpl0⟩ : ∃ pl0 : Option (Option Nat), pl0 = if cl0 = mle T (ths.take (a + c)) % p then some none else none := ⟨_, rfl⟩
  have cl00 : 0 ≤ cl0 ∧ cl0 < p := by rw [hcl0]; exact mod_in (by omega)
  rw [← hcl0] at q ⊢
  suffices go : k1 [some (.st 0), some (.lst (L.map D.int)), some (.lst (R.map D.int)), some (.lst (C.map D.int)), some (.tup [.int (a : Nat), .int (b : Nat), .int (c : Nat)]), some (.lst (ths.map D.int)), some (.int p), some (.int seed), some (.int (a : Nat)), some (.int (b : Nat)), some (.int (c : Nat)), some (.lst ((ths.take (a + c)).map D.int)), some (.lst (T.map D.int)), some (.int cl0), some (plD pl0), none, none, none, none, none, none, none, none, none] ⟨M, 1⟩ by
    by_cases e : cl0 = mle T (ths.take (a + c)) % p
    · rw [if_pos e]
      rw [if_pos e] at hpl0
      rw [hpl0] at go
      exact ⟨by decide, go⟩
    · rw [if_neg e]
      rw [if_neg e] at hpl0
      rw [hpl0] at go
      exact go
  subst h1
  refine dSeq_k fun k1 h1 => ?_
  walk_at "dx"
  refine ⟨M.length, p, L, R, a, b, c, ths.take (a + c), rfl, by rw [List.getElem?_append_right (Nat.le_refl _), Nat.sub_self]; rfl, hp.pm, H.li, H.ri, H.ll, H.rl, by omega, by omega, by omega, l4, rfl, ?_⟩
  rw [List.set_append_right _ _ (Nat.le_refl _), Nat.sub_self, List.set_cons_zero, List.take_take, Nat.min_eq_left (Nat.le_add_right a c)]
  obtain ⟨F, hF⟩ : ∃ F, F = (ths.take a).foldl (foldS p) L := ⟨_, rfl⟩
  obtain ⟨G, hG⟩ : ∃ G, G = secT R ((ths.take (a + c)).drop a) b p := ⟨_, rfl⟩
  have eF : F0 L a ths p = F := hF.symm
  have eG : G0 R a b c ths p = G := hG.symm
  have Fl : F.length = 2 ^ b := by rw [hF]; exact pfold_len _ _ b (by rw [l1]; exact H.ll)
  have Gl : G.length = 2 ^ b := by rw [hG]; exact secT_len
  have Fi : InP p F := by rw [hF]; exact foldl_inP (by omega) _ _ H.li
  have Gi : InP p G := by rw [hG]; exact secT_in (by omega)
  rw [eF, eG] at q
  rw [← hF, ← hG]
  walk_at "nxt"
  refine ⟨by decide, ?_⟩
  rw [List.length_append, show (M.length + [MO.ins "ProductAnswerer" (paF p F G)].length) = M.length + 1 from rfl, List.append_assoc]
  obtain ⟨mid, hmid⟩ : ∃ mid, mid = ths.drop (a + c) := ⟨_, rfl⟩
  rw [← hmid] at q l3 tdi
  obtain ⟨Q, hQ⟩ : ∃ Q : Nat → List Int → Int → List Int → Prop, Q = fun k => sndQ seed ths p (a + c + k) := ⟨_, rfl⟩
  rw [← hQ] at q
  subst h1
  refine dSeq_k fun k1 h1 => ?_
  walk_at "dx"
  refine ⟨⟨by omega, by omega⟩, ?_⟩
  rw [Int.toNat_natCast, rngD0]
  refine forW_nat (fun k ρ m' => ∃ (f g : List Int) (P : List (List Int)) (cl : Int) (pl : Option (Option Nat)) (Y : List MO) (v0 v17 v18 v21 v22 v23 : Option D),
    P.length = k ∧ (∃ n, f.length = 2 ^ n ∧ n + k = b) ∧ g.length = f.length ∧ InP p f ∧ InP p g ∧ (0 ≤ cl ∧ cl < p) ∧ f = (mid.take k).foldl (foldS p) F ∧ g = (mid.take k).foldl (foldS p) G ∧ (seed = 0 → v0 = some (.st 0)) ∧
    (∀ P2, sntR Q p k f g P2 (mid.drop k) cl → sntR Q p 0 F G (P ++ P2) mid cl0) ∧ (∀ P2, tlk p 0 F G (P ++ P2) mid cl0 pl0 = tlk p k f g P2 (mid.drop k) cl pl) ∧
    ρ = [v0, some (.lst (L.map D.int)), some (.lst (R.map D.int)), some (.lst (C.map D.int)), some (.tup [.int (a : Nat), .int (b : Nat), .int (c : Nat)]), some (.lst (ths.map D.int)), some (.int p), some (.int seed), some (.int (a : Nat)), some (.int (b : Nat)), some (.int (c : Nat)), some (.lst ((ths.take (a + c)).map D.int)), some (.lst (T.map D.int)), some (.int cl), some (plD pl), some (.hnd M.length), some (.hnd (M.length + 1)), v17, v18, none, none, v21, v22, v23] ∧
    m' = ⟨M ++ .ins "ProductAnswerer" (paF p f g) :: .lst (P.map intL) :: Y, 1⟩) ?_ ?_ ⟨F, G, [], cl0, pl0, [], _, _, _, _, _, _, rfl, ⟨b, Fl, rfl⟩, by rw [Fl, Gl], Fi, Gi, cl00, rfl, rfl, fun _ => rfl, fun _ h => h, fun _ => rfl, rfl, rfl⟩
  · rintro k kk hk hkk ρ m' ⟨f, g, P, cl, pl, Y, v0, v17, v18, v21, v22, v23, Pl, ⟨n, fl, hn⟩, gl, fi, gi_, clb, ef, eg, ev0, I1, I2, rfl, rfl⟩
    clear h1
    have hm : mid.drop k = Dl.gi ths ((a + c + k : Nat) : Int) :: mid.drop (k + 1) := by
      have e := List.drop_eq_getElem_cons (l := mid) (i := k) (by omega)
      rw [e]
      congr 1
      rw [gi_nat, List.getD_eq_getElem?_getD]
      have : ths[a + c + k]? = mid[k]? := by rw [hmid, List.getElem?_drop]
      rw [this, List.getElem?_eq_getElem (by omega)]
      rfl
    obtain ⟨t, ht⟩ : ∃ t, t = Dl.gi ths ((a + c + k : Nat) : Int) := ⟨_, rfl⟩
    have t0 : 0 ≤ t ∧ t < p := by
      have : t ∈ mid.drop k := by rw [hm, ht]; exact List.mem_cons_self
      exact tdi t (List.mem_of_mem_drop this)
    rw [← ht] at hm
    walk_at "stp"
    rw [show ((a : Nat) : Int) + (c : Nat) + (k : Nat) = ((a + c + k : Nat) : Int) by omega]
    refine ⟨_, atI_gi (by omega) (by omega), ?_⟩
    rw [← ht]
    subst h1
    refine dSeq_k fun k1 h1 => ?_
    walk_at "dx"
    have ob : ∀ f g Z, moI (M ++ .ins "ProductAnswerer" (paF p f g) :: Z)[M.length]? = some ("ProductAnswerer", paF p f g) := fun f g Z => by
      rw [List.getElem?_append_right (Nat.le_refl _), Nat.sub_self]
      rfl
    have nb : n ≤ 2 := by omega
    have f4 : f.length ≤ 4 := by rw [fl]; exact Nat.le_trans (Nat.pow_le_pow_right (by decide) nb) (by decide)
    have PB : ∀ Z s, PaB ⟨M ++ .ins "ProductAnswerer" (paF p f g) :: Z, s⟩ M.length p f g := fun Z s => ⟨by
      show (M ++ .ins "ProductAnswerer" (paF p f g) :: Z)[M.length]? = _
      rw [List.getElem?_append_right (Nat.le_refl _), Nat.sub_self]
      rfl, hp.pm, fi, gi_, gl.symm, by omega⟩
    rw [ob]
    show List.lookup "poly" (paF p f g) = none ∧ _
    refine ⟨rfl, M.length, p, f, g, rfl, PB _ _, ?_⟩
    obtain ⟨mn, hmn⟩ : ∃ mn, mn = joinP f g p := ⟨_, rfl⟩
    have mnl : mn.length = 3 := by rw [hmn]; rfl
    have mni : InP p mn := by rw [hmn]; exact joinP_in (by omega)
    rw [← hmn]
    subst h1
    refine dSeq_k fun k1 h1 => ?_
    have gen : ∀ (st0 : D) (Yb : Int → List MO) (ok : Int → Prop) (Rr : Int → Int → Int → Int → Prop) (s : Int), DrM st0 (fun s => M ++ .ins "ProductAnswerer" (paF p f g) :: .lst (P.map intL) :: Yb s) 1 ok Rr → ok s → (seed = 0 → st0 = .st 0) → (∀ s2 gu B, (0 < seed → Rr s p gu s2) → BlfR ok Rr s2 mn cl gu p B → Q k mn cl B) →
        k1 [some st0, some (.lst (L.map D.int)), some (.lst (R.map D.int)), some (.lst (C.map D.int)), some (.tup [.int (a : Nat), .int (b : Nat), .int (c : Nat)]), some (.lst (ths.map D.int)), some (.int p), some (.int seed), some (.int (a : Nat)), some (.int (b : Nat)), some (.int (c : Nat)), some (.lst ((ths.take (a + c)).map D.int)), some (.lst (T.map D.int)), some (.int cl), some (plD pl), some (.hnd M.length), some (.hnd (M.length + 1)), some (.int (k : Nat)), some (.lst (mn.map D.int)), none, none, some (.int t), v22, v23]
          ⟨M ++ .ins "ProductAnswerer" (paF p f g) :: .lst (P.map intL) :: Yb s, 1⟩ := by
      intro st0 Yb ok Rr s DM os es hQ2
      have dr0 : ∀ s n (Φ : D → MM → Prop) (Ψ : XP), ok s → 0 < n → n < 2 ^ 30 → (∀ r s', 0 ≤ r → r < n → ok s' → Rr s n r s' → Φ (.int r) ⟨M ++ .ins "ProductAnswerer" (paF p f g) :: .lst (P.map intL) :: Yb s', 1⟩) → C_drawX [st0, .int n] ⟨M ++ .ins "ProductAnswerer" (paF p f g) :: .lst (P.map intL) :: Yb s, 1⟩ Φ Ψ := fun s n Φ Ψ a b c h => by
        have := DM.dr s [] n Φ Ψ a b c (fun r s' h1 h2 h3 h4 => by rw [List.append_nil]; exact h r s' h1 h2 h3 h4)
        rw [List.append_nil] at this
        exact this
      subst h1
      refine dSeq_k fun k1 h1 => ?_
      have gus : ∀ gu s2, (0 ≤ gu ∧ gu < p) → ok s2 → (0 < seed → Rr s p gu s2) → k1 [some st0, some (.lst (L.map D.int)), some (.lst (R.map D.int)), some (.lst (C.map D.int)), some (.tup [.int (a : Nat), .int (b : Nat), .int (c : Nat)]), some (.lst (ths.map D.int)), some (.int p), some (.int seed), some (.int (a : Nat)), some (.int (b : Nat)), some (.int (c : Nat)), some (.lst ((ths.take (a + c)).map D.int)), some (.lst (T.map D.int)), some (.int cl), some (plD pl), some (.hnd M.length), some (.hnd (M.length + 1)), some (.int (k : Nat)), some (.lst (mn.map D.int)), none, none, some (.int t), some (.int gu), v23]
          ⟨M ++ .ins "ProductAnswerer" (paF p f g) :: .lst (P.map intL) :: Yb s2, 1⟩ := by
        intro gu s2 gub os2 hR2
        subst h1
        refine dSeq_k fun k1 h1 => ?_
        walk_at "dx"
        have g0 : ∀ X Y' Z, (M ++ X :: .lst Y' :: Z)[M.length + 1]? = some (.lst Y') := fun X Y' Z => by
          rw [List.getElem?_append_right (by omega), show M.length + 1 - M.length = 1 by omega]
          rfl
        refine ⟨by rw [g0]; rfl, st0, (fun s => M ++ .ins "ProductAnswerer" (paF p f g) :: .lst (P.map intL) :: Yb s), 1, ok, Rr, s2, mn, cl, gu, p, DM, rfl, rfl, os2, hp, mnl, mni, clb.1, clb.2, gub.1, gub.2, fun B s3 hB => ?_⟩
        have QB := hQ2 s2 gu B hR2 hB
        have Bo : BlfOK cl p B := by
          rw [hQ] at QB
          exact QB.1
        have g1 : ∀ X Y', (M ++ X :: .lst Y' :: Yb s3)[M.length + 1]? = some (.lst Y') := fun X Y' => by
          rw [List.getElem?_append_right (by omega), show M.length + 1 - M.length = 1 by omega]
          rfl
        have g2 : ∀ X Y' Z, (M ++ X :: Y' :: Yb s3).set (M.length + 1) Z = M ++ X :: Z :: Yb s3 := fun X Y' Z => by
          rw [List.set_append_right _ _ (by omega), show M.length + 1 - M.length = 1 by omega]
          rfl
        walk_at "dx"
        simp only [g1, g2, moL_lst]
        refine ⟨by rw [List.length_map]; show _ < 16777216; omega, ?_⟩
        rw [show P.map intL ++ [D.lst (B.map D.int)] = (P ++ [B]).map intL by rw [List.map_append]; rfl]
        have atk : atI ((P ++ [B]).map intL) ((k : Nat) : Int) = some (.lst (B.map D.int)) := atI_map (inj := intL) (by omega) (by rw [Int.toNat_natCast, ← Pl]; simp)
        have gs : ∀ X Z, (M ++ X :: .lst ((P ++ [B]).map intL) :: Z)[M.length + 1]? = some (.lst ((P ++ [B]).map intL)) := fun X Z => g0 _ _ _
        obtain ⟨PB1, hPB1⟩ : ∃ PB1, PB1 = (P ++ [B]).map intL := ⟨_, rfl⟩
        rw [← hPB1] at atk gs ⊢
        walk_at "nxt"
        simp only [gs, moL_lst]
        refine ⟨_, atk, ?_⟩
        refine ⟨B, t, p, rfl, Bo.1, hp, Bo.2.1, t0.1, t0.2, ?_⟩
        subst h1
        refine dSeq_k fun k1 h1 => ?_
        obtain ⟨pl', hpl'⟩ : ∃ pl' : Option (Option Nat), pl' = if pl = none ∧ B ≠ mn ∧ atV B t p = atV mn t p then some (some k) else pl := ⟨_, rfl⟩
        have aft : k1 [some st0, some (.lst (L.map D.int)), some (.lst (R.map D.int)), some (.lst (C.map D.int)), some (.tup [.int (a : Nat), .int (b : Nat), .int (c : Nat)]), some (.lst (ths.map D.int)), some (.int p), some (.int seed), some (.int (a : Nat)), some (.int (b : Nat)), some (.int (c : Nat)), some (.lst ((ths.take (a + c)).map D.int)), some (.lst (T.map D.int)), some (.int (atV B t p)), some (plD pl'), some (.hnd M.length), some (.hnd (M.length + 1)), some (.int (k : Nat)), some (.lst (mn.map D.int)), none, none, some (.int t), some (.int gu), v23]
          ⟨M ++ .ins "ProductAnswerer" (paF p f g) :: .lst PB1 :: Yb s3, 1⟩ := by
          subst h1
          walk_at "dx"
          rw [ob]
          show List.lookup "throw" (paF p f g) = none ∧ _
          refine ⟨rfl, M.length, p, t, f, g, rfl, PB _ _, ?_⟩
          rw [hPB1]
          show kk _ ⟨(M ++ .ins "ProductAnswerer" (paF p f g) :: .lst ((P ++ [B]).map intL) :: Yb s3).set M.length _, 1⟩
          rw [List.set_append_right _ _ (Nat.le_refl _), Nat.sub_self, List.set_cons_zero]
          obtain ⟨n', rfl⟩ : ∃ n', n = n' + 1 := ⟨n - 1, by omega⟩
          have ek : mid[k]? = some t := by
            have : (mid.drop k)[0]? = some t := by rw [hm]; rfl
            rw [List.getElem?_drop] at this
            exact this
          refine hkk _ _ ⟨foldS p f t, foldS p g t, P ++ [B], atV B t p, pl', Yb s3, some st0, _, _, _, _, _, by simp [Pl], ⟨n', by rw [foldS_len, fl, Nat.pow_succ]; omega, by omega⟩, by rw [foldS_len, foldS_len, gl], foldl_inP (by omega) [t] f fi, foldl_inP (by omega) [t] g gi_, mod_in (by omega), ?_, ?_, fun z => by rw [es z], fun P2 h => ?_, fun P2 => ?_, rfl, rfl⟩
          · rw [List.take_succ, ek, List.foldl_append, ← ef]
            rfl
          · rw [List.take_succ, ek, List.foldl_append, ← eg]
            rfl
          · rw [List.append_assoc]
            refine I1 (B :: P2) ?_
            rw [hm]
            rw [hmn] at QB
            exact ⟨QB, h⟩
          · rw [List.append_assoc]
            have z := I2 (B :: P2)
            rw [hm] at z
            rw [hpl', hmn]
            exact z
        walk_at "dx"
        cases pl with
        | none =>
          dsimp only [plD]
          rw [if_pos rfl]
          simp only [gs, moL_lst]
          refine ⟨_, atk, okE_ints, okE_ints, ?_⟩
          rw [eqD_ints]
          by_cases e1 : B = mn
          · rw [if_neg (by simp [e1])]
            rw [if_neg (fun z => z.2.1 e1)] at hpl'
            rw [hpl'] at aft
            exact aft
          rw [if_pos (decide_eq_false e1)]
          refine ⟨mn, t, p, rfl, mnl, hp, mni, t0.1, t0.2, ?_⟩
          refine ⟨rfl, ?_⟩
          rw [eqD_int]
          by_cases e2 : atV B t p = atV mn t p
          · rw [if_pos (decide_eq_true e2)]
            rw [if_pos ⟨rfl, e1, e2⟩] at hpl'
            rw [hpl'] at aft
            exact ⟨by decide, aft⟩
          · rw [if_neg (fun z => e2 (of_decide_eq_true z))]
            rw [if_neg (fun z => e2 z.2.2)] at hpl'
            rw [hpl'] at aft
            exact aft
        | some x =>
          rw [if_neg (fun z => by cases z.1)] at hpl'
          rw [hpl'] at aft
          cases x with
          | none => exact aft
          | some j => exact aft
      walk_at "dx"
      by_cases e : 0 < seed
      · rw [if_pos e]
        exact dr0 s p _ _ os (by omega) (by omega) fun r s' r0 r1 os' hR => gus r s' ⟨r0, r1⟩ os' fun _ => hR
      · rw [if_neg e]
        refine dr0 s 3 _ _ os (by decide) (by decide) fun r s' r0 r1 os' hR => ?_
        refine ⟨rfl, ?_⟩
        rw [eqD_int]
        by_cases e3 : r = 0
        · rw [if_pos (decide_eq_true e3)]
          exact dr0 s' p _ _ os' (by omega) (by omega) fun r2 s2 r20 r21 os2 hR2 => gus r2 s2 ⟨r20, r21⟩ os2 fun z => absurd z e
        · rw [if_neg (fun z => e3 (of_decide_eq_true z))]
          exact gus t s' t0 os' fun z => absurd z e
    walk_at "dx"
    by_cases e : 0 < seed
    · rw [if_pos e]
      refine ⟨by decide, ⟨by omega, by omega⟩, ?_⟩
      rw [show ((a : Nat) : Int) + (c : Nat) + (k : Nat) = ((a + c + k : Nat) : Int) by omega, Int.toNat_natCast, rngD0]
      refine lcW_fn (inj := fun i : Nat => D.int (i : Nat)) (out := D.int) (fun j : Nat => (Dl.gi ths (j : Nat) + 1) * 343 * ((j : Nat) + 3)) _ (List.range (a + c + k)) ?_ (fun _ => rfl) (by rw [List.length_range]; show _ ≤ 16777216; omega) ?_
      · intro j hj m2 Θ hΘ
        have hj := List.mem_range.mp hj
        walk_at "dx"
        refine ⟨_, atI_gi (by omega) (by omega), ?_⟩
        dsimp only
        rw [show (7 : Int) ^ Int.toNat 3 = 343 by decide]
        exact ⟨⟨by decide, by decide, by decide⟩, .inr (.inl ⟨by decide, by decide⟩), .inr (.inl ⟨by omega, by omega⟩), hΘ⟩
      · dsimp only
        refine ⟨_, ints_map _, by decide, ?_⟩
        have es : seed + (((List.range (a + c + k)).map fun j : Nat => (Dl.gi ths (j : Nat) + 1) * 343 * ((j : Nat) + 3))).sum = sdE seed ths (a + c + k) := rfl
        rw [es]
        obtain ⟨W, hW⟩ : ∃ W, W = M ++ .ins "ProductAnswerer" (paF p f g) :: .lst (P.map intL) :: Y := ⟨_, rfl⟩
        have eW : (fun s => (W ++ [stO 0]).set W.length (stO s)) = fun s => M ++ .ins "ProductAnswerer" (paF p f g) :: .lst (P.map intL) :: (Y ++ [stO s]) := by
          funext s
          rw [List.set_append_right _ _ (Nat.le_refl _), Nat.sub_self, hW, List.append_assoc]
          rfl
        have DM := drmE (M := W ++ [stO 0]) (k := W.length) (sm := 1) (by rw [List.length_append, List.length_singleton]; omega)
        rw [eW] at DM
        have key := gen (.hnd W.length) (fun s => Y ++ [stO s]) _ _ (sdE seed ths (a + c + k)) DM (sdE_in hp ti (by omega) sd0 sd1) (fun z => by omega) (fun s2 gu B hR2 hB => by
          rw [hQ]
          obtain ⟨rfl, rfl⟩ := hR2 e
          exact ⟨hB.fits (by omega) mnl mni clb.1 clb.2, fun _ => blfI_of hB⟩)
        rw [hW] at key
        rw [List.append_assoc]
        exact key
    · rw [if_neg e]
      have e0 : seed = 0 := by omega
      rw [ev0 e0]
      exact gen (.st 0) (fun _ => Y) _ _ 0 drm0 trivial (fun _ => rfl) (fun s2 gu B hR2 hB => by
        rw [hQ]
        exact ⟨hB.fits (by omega) mnl mni clb.1 clb.2, fun z => absurd z e⟩)
  · rintro ρ m' ⟨f, g, P, cl, pl, Y, v0, v17, v18, v21, v22, v23, Pl, ⟨n, fl, hn⟩, gl, fi, gi_, clb, ef, eg, ev0, I1, I2, rfl, rfl⟩
    subst h1
    have ob : ∀ f g Z, moI (M ++ .ins "ProductAnswerer" (paF p f g) :: Z)[M.length]? = some ("ProductAnswerer", paF p f g) := fun f g Z => by
      rw [List.getElem?_append_right (Nat.le_refl _), Nat.sub_self]
      rfl
    have n0 : n = 0 := by omega
    subst n0
    have PB : ∀ Z s, PaB ⟨M ++ .ins "ProductAnswerer" (paF p f g) :: Z, s⟩ M.length p f g := fun Z s => ⟨by
      show (M ++ .ins "ProductAnswerer" (paF p f g) :: Z)[M.length]? = _
      rw [List.getElem?_append_right (Nat.le_refl _), Nat.sub_self]
      rfl, hp.pm, fi, gi_, gl.symm, by rw [fl]; decide⟩
    dsimp only
    refine dSeq_k fun k1 h1 => ?_
    walk_at "dx"
    rw [ob]
    show List.lookup "pair" (paF p f g) = none ∧ _
    refine ⟨rfl, M.length, p, f, g, rfl, PB _ _, by rw [fl]; decide, ?_⟩
    have dm : mid.drop b = [] := List.drop_eq_nil_of_le (by omega)
    have J1 := I1 [] (by rw [dm]; trivial)
    have J2 := I2 []
    rw [dm, List.append_nil] at J2
    rw [List.append_nil] at J1
    have J2 : tlk p 0 F G P mid cl0 pl0 = (cl, pl) := J2
    have q := q P J1
    obtain ⟨mv, hmv⟩ : ∃ mv, mv = [Dl.gi f 0 % p, Dl.gi g 0 % p] := ⟨_, rfl⟩
    have emv : mnV L R a b c ths p = mv := by
      rw [hmv]
      unfold mnV
      rw [eF, eG, ← hmid, ef, eg, List.take_of_length_le (by omega)]
    have etk : tkE L R C a b c ths p P = (cl, pl) := by
      unfold tkE
      rw [eF, eG, ← hmid, ← hcl0, ← hT, ← hpl0]
      exact J2
    obtain ⟨vv, hvv⟩ : ∃ vv, vv = pairF (Dl.gi f 0 % p) (Dl.gi g 0 % p) cl p := ⟨_, rfl⟩
    have evv : tkV L R C a b c ths p P = vv := by
      unfold tkV
      rw [emv, etk, hvv, hmv]
      rfl
    unfold tkD at q
    rw [evv, emv, etk, ← hT] at q
    have mf : 0 ≤ Dl.gi f 0 % p ∧ Dl.gi f 0 % p < p := mod_in (by omega)
    have mg : 0 ≤ Dl.gi g 0 % p ∧ Dl.gi g 0 % p < p := mod_in (by omega)
    have mvl : mv.length = 2 := by rw [hmv]; rfl
    have vvl : vv.length = 2 := by
      rw [hvv]
      unfold pairF
      split
      · rfl
      split
      · rfl
      split <;> rfl
    walk_at "nxt"
    refine ⟨Dl.gi f 0 % p, Dl.gi g 0 % p, cl, p, rfl, hp, mf.1, mf.2, mg.1, mg.2, clb.1, clb.2, ?_⟩
    rw [← hvv, ← hmv]
    walk_at "nxt"
    refine ⟨by decide, ?_⟩
    subst h1
    refine dSeq_k fun k1 h1 => ?_
    have fin2 : k1 [v0, some (.lst (L.map D.int)), some (.lst (R.map D.int)), some (.lst (C.map D.int)), some (.tup [.int (a : Nat), .int (b : Nat), .int (c : Nat)]), some (.lst (ths.map D.int)), some (.int p), some (.int seed), some (.int (a : Nat)), some (.int (b : Nat)), some (.int (c : Nat)), some (.lst ((ths.take (a + c)).map D.int)), some (.lst (T.map D.int)), some (.int cl), some (plD pl), some (.hnd M.length), some (.hnd (M.length + 1)), v17, some (.lst (mv.map D.int)), some (.lst (vv.map D.int)), some (dueV vv mv), v21, v22, v23]
        ⟨M ++ .ins "ProductAnswerer" (paF p f g) :: .lst (P.map intL) :: Y, 1⟩ := by
      subst h1
      have g0 : ∀ X Y' Z, (M ++ X :: .lst Y' :: Z)[M.length + 1]? = some (.lst Y') := fun X Y' Z => by
        rw [List.getElem?_append_right (by omega), show M.length + 1 - M.length = 1 by omega]
        rfl
      unfold dFrz
      dsimp only [List.getElem?_cons_succ, List.getElem?_cons_zero]
      simp only [g0, moL_lst]
      dsimp only [List.set_cons_succ, List.set_cons_zero]
      walk_at "dx"
      have fin3 : ∀ pd : D, Dl.plD pd = true → Φ (.tup [pairD P vv, dueV vv mv, pd]) ⟨M, 1⟩ → retQ ⟨M, 1⟩ Φ (.tup [pairD P vv, dueV vv mv, pd]) ⟨(M ++ .ins "ProductAnswerer" (paF p f g) :: .lst (P.map intL) :: Y).set (M.length + 1) .dead, 1⟩ := fun pd hpd hq => by
        rw [List.set_append_right _ _ (by omega)]
        exact ⟨M, _, _, rfl, kept.rfl, .inl rfl, clD_pl _ (plD_tk hpd), hq⟩
      obtain ⟨E1, E2, E3⟩ := dueV_facts (v := vv) (mn := mv)
      refine ⟨by decide, okE_ints, okE_ints, ?_⟩
      rw [eqD_ints]
      by_cases eC : C = T
      · rw [if_neg (by simp [eC])]
        rw [if_neg (fun z => z.1 eC)] at q
        exact ⟨by decide, fin3 _ rfl q⟩
      rw [if_pos (decide_eq_false eC)]
      refine ⟨by decide, E2, okE_tup (fun d hd => by
        rw [List.mem_singleton.mp hd]
        exact okE_sD (by decide +kernel)), ?_⟩
      rw [show eqD (dueV vv mv) (.tup [.str (PySem.Str.ofString "believed")]) = decide (vv = mv) from E3]
      by_cases eV : vv = mv
      · rw [if_pos (decide_eq_true eV)]
        rw [if_pos ⟨eC, eV⟩] at q
        exact ⟨by decide, fin3 _ (plD_pl pl) q⟩
      · rw [if_neg (fun z => eV (of_decide_eq_true z))]
        rw [if_neg (fun z => eV z.2)] at q
        exact ⟨by decide, fin3 _ rfl q⟩
    walk_at "dx"
    refine ⟨okE_ints, okE_ints, ?_⟩
    rw [eqD_ints]
    by_cases e : vv = mv
    · rw [if_neg (by simp [e])]
      unfold dueV at fin2
      rw [if_pos e] at fin2
      exact fin2
    · rw [if_pos (decide_eq_false e)]
      unfold dueV at fin2
      rw [if_neg e] at fin2
      refine ⟨_, atI_gi (by decide) (by omega), _, atI_gi (by decide) (by omega), ?_⟩
      walk_at "dx"
      by_cases e2 : Dl.gi vv 0 = Dl.gi mv 0
      · rw [if_neg (fun z => z e2)]
        rw [if_pos e2] at fin2
        exact ⟨by decide, fin2⟩
      · rw [if_pos e2]
        rw [if_neg e2] at fin2
        exact ⟨by decide, fin2⟩
theorem jp_fin {L R C : List Int} {a b c : Nat} {ths : List Int} {P : List (List Int)} {v : List Int} {p : Int} {m : MM} {Φ : D → MM → Prop} {Ψ : XP} (h : PrP p) (h2 : p ≠ 2) (h3 : ¬ max3I ((a + b : Nat) : Int) ((b + c : Nat) : Int) ((a + c : Nat) : Int) > 12) (h4 : matsOk L R C a b c p = true) (h5 : talkE (a + b + c) b ths P.length p = none) (q : Φ (jpD L R C a c ths P v p) m) : jpT L R C a b c ths P v p m Φ Ψ :=
  ⟨fun z => absurd h z, fun _ => ⟨fun z => absurd z h2, fun _ => ⟨fun z => absurd z h3, fun _ => ⟨fun z => (by rw [h4] at z; cases z), fun _ => ⟨fun e' z => (by rw [h5] at z; cases z), fun _ => q⟩⟩⟩⟩⟩
theorem judge_ok {L R C : List Int} {a b c : Nat} {ths : List Int} {P : List (List Int)} {v : List Int} {p : Int} {m : MM} {Φ : D → MM → Prop} {Ψ : XP} (H : TkP L R C a b c ths p) (hP : P.length = b) (hP3 : ∀ B ∈ P, B.length = 3 ∧ InP p B) (hv : v.length ≤ 100) (q : Φ (jpD L R C a c ths P v p) m) : C_judge_product [.lst (L.map D.int), .lst (R.map D.int), .lst (C.map D.int), szD a b c, .lst (ths.map D.int), pairD P v, .int p] m Φ Ψ := by
  have hb := H.sp.b
  have ha2 := H.a2
  have hb2 := H.b2
  have hc2 := H.c2
  have tl := H.tl
  have p4 : ∀ n, n ≤ 4 → 2 ^ n ≤ 16 := fun n hn => Nat.le_trans (Nat.pow_le_pow_right (by decide) hn) (by decide)
  have := p4 (a + b) (by omega)
  have := p4 (b + c) (by omega)
  have := p4 (a + c) (by omega)
  have e1 := H.ll
  have e2 := H.rl
  have e3 := H.cl
  refine ⟨L, R, C, a, b, c, ths, P, v, p, rfl, by omega, by omega, by omega, by omega, by omega, by omega, by omega, by omega, by omega, fun B hB => by have := (hP3 B hB).1; omega, ?_⟩
  refine jp_fin ⟨H.sp.pm.1, H.sp.pm.2, prim_Pr H.sp.pr⟩ (by omega) (by unfold max3I; split <;> split <;> omega) ?_ ?_ q
  · unfold matsOk
    rw [matOk_iff.mpr ⟨H.ll, H.li⟩, matOk_iff.mpr ⟨H.rl, H.ri⟩, matOk_iff.mpr ⟨H.cl, H.ci⟩]
    rfl
  · unfold talkE
    rw [if_neg (by rw [H.tl]; exact fun h => h rfl), all_inP H.ti, if_neg (by decide), if_neg (by rw [hP]; exact fun h => h rfl)]
theorem rd_round_agreement : ∀ ds m Φ Ψ, ds.length = 4 → C_round_agreement ds m Φ Ψ → W_round_agreement { nx := fun _ m' => Φ .non m', rt := Φ } (fun _ => Ψ) (ds.map some ++ List.replicate (7 - ds.length) none) m := by
  intro ds m Φ Ψ _ h
  obtain ⟨k, f, g, P, ths, p, rfl, H, hp, ti, lP, l100, hP, q⟩ := h
  have hb := hp.b
  change W_round_agreement _ _ [some (.hnd k), some (.lst (P.map intL)), some (.lst (ths.map D.int)), some (.int p), none, none, none] m
  unfold W_round_agreement
  walk_at "stp"
  refine forW_enum (inj := D.int) (fun i r ρ m' => ∃ (f' g' : List Int) (v4 v5 v6 : Option D), PaB m' k p f' g' ∧ (∃ o, m' = ⟨m.M.set k o, m.s⟩) ∧ r = ths.drop i ∧ ragr p 0 f g P ths = ragr p i f' g' (P.drop i) r ∧ ρ = [some (.hnd k), some (.lst (P.map intL)), some (.lst (ths.map D.int)), some (.int p), v4, v5, v6]) ?_ ?_ ths 0 _ _ ⟨f, g, _, _, _, H, ⟨_, (by
    have : m.M.set k (.ins "ProductAnswerer" (paF p f g)) = m.M := by
      apply List.ext_getElem?
      intro i
      by_cases hi : k = i
      · subst hi
        rw [List.getElem?_set_self (List.getElem?_eq_some_iff.mp H.ob).1, H.ob]
      · rw [List.getElem?_set_ne hi]
    rw [this] : m = ⟨m.M.set k (.ins "ProductAnswerer" (paF p f g)), m.s⟩)⟩, rfl, rfl, rfl⟩
  · rintro i t r kk hk ρ m' ⟨f', g', v4, v5, v6, PB, ⟨o, rfl⟩, hr, ea, rfl⟩
    clear h1
    have ob : (m.M.set k o)[k]? = some (.ins "ProductAnswerer" (paF p f' g')) := PB.ob
    walk_at "dx"
    have rl := congrArg List.length hr
    rw [List.length_cons, List.length_drop] at rl
    have t0 := ti t (List.mem_of_mem_drop (i := i) (by rw [← hr]; exact List.mem_cons_self))
    have hr2 : r = ths.drop (i + 1) := by
      have := congrArg (List.drop 1) hr
      rw [List.drop_drop] at this
      exact this
    have gP : P[i]? = some P[i] := List.getElem?_eq_getElem (by omega)
    have dP : P.drop i = P[i] :: P.drop (i + 1) := List.drop_eq_getElem_cons (by omega)
    have B0 := hP _ (List.getElem_mem (l := P) (n := i) (by omega))
    rw [dP] at ea
    generalize P[i] = B at gP B0 ea
    obtain ⟨mn, hmn⟩ : ∃ mn, mn = joinP f' g' p := ⟨_, rfl⟩
    have mnl : mn.length = 3 := by rw [hmn]; exact joinP_len
    have mni : InP p mn := by rw [hmn]; exact joinP_in (by omega)
    have ea : ragr p 0 f g P ths = if sameV B mn p = false ∧ valV B t p = valV mn t p then some i else ragr p (i + 1) (foldS p f' t) (foldS p g' t) (P.drop (i + 1)) r := by rw [hmn]; exact ea
    have atk : atI (P.map intL) ((i : Nat) : Int) = some (.lst (B.map D.int)) := atI_map (inj := intL) (by omega) (by rw [Int.toNat_natCast]; exact gP)
    rw [ob]
    show List.lookup "poly" (paF p f' g') = none ∧ _
    refine ⟨rfl, k, p, f', g', rfl, PB, ?_⟩
    rw [← hmn]
    refine ⟨_, atk, B, mn, p, rfl, hp.pm, hp.pr, B0.2, mni, by omega, by omega, by omega, by omega, ?_⟩
    dsimp only
    have kl : k < m.M.length := by
      have := (List.getElem?_eq_some_iff.mp ob).1
      rw [List.length_set] at this
      exact this
    have PB2 : PaB ⟨m.M.set k (.ins "ProductAnswerer" (paF p (foldS p f' t) (foldS p g' t))), m.s⟩ k p (foldS p f' t) (foldS p g' t) := ⟨List.getElem?_set_self kl, hp.pm, foldS_in (by omega), foldS_in (by omega), by rw [foldS_len, foldS_len, PB.len], by have := PB.l64; rw [foldS_len]; omega⟩
    have nx : ¬ (sameV B mn p = false ∧ valV B t p = valV mn t p) → kk [some (.hnd k), some (.lst (P.map intL)), some (.lst (ths.map D.int)), some (.int p), some (.int (i : Nat)), some (.int t), some (.lst (mn.map D.int))] ⟨(m.M.set k o).set k (.ins "ProductAnswerer" (paF p (foldS p f' t) (foldS p g' t))), m.s⟩ := fun z => by
      rw [List.set_set]
      rw [if_neg z] at ea
      exact hk _ _ ⟨_, _, _, _, _, PB2, ⟨_, rfl⟩, hr2, ea, rfl⟩
    cases hs : sameV B mn p with
    | false =>
      rw [if_pos rfl]
      refine ⟨_, atk, B, t, p, rfl, hp.pm, hp.pr, B0.2, by omega, by omega, t0.1, mn, t, p, rfl, hp.pm, hp.pr, mni, by omega, by omega, t0.1, rfl, rfl, ?_⟩
      rw [eqD_int]
      by_cases e : valV B t p = valV mn t p
      · rw [if_pos (decide_eq_true e)]
        rw [if_pos ⟨hs, e⟩] at ea
        have := q o
        rw [ea] at this
        exact this
      · rw [if_neg (fun z => e (of_decide_eq_true z))]
        dsimp only
        rw [ob]
        show List.lookup "throw" (paF p f' g') = none ∧ _
        exact ⟨rfl, k, p, t, f', g', rfl, PB, nx fun z => e z.2⟩
    | true =>
      rw [if_neg (by decide)]
      rw [ob]
      show List.lookup "throw" (paF p f' g') = none ∧ _
      exact ⟨rfl, k, p, t, f', g', rfl, PB, nx fun z => by rw [hs] at z; cases z.1⟩
  · rintro i ρ m' ⟨f', g', v4, v5, v6, PB, ⟨o, rfl⟩, hr, ea, rfl⟩
    subst h1
    have e0 : ragr p 0 f g P ths = none := by
      rw [ea]
      cases P.drop i <;> rfl
    have := q o
    rw [e0] at this
    exact this
theorem rd_blame_product : ∀ ds m Φ Ψ, ds.length = 7 → C_blame_product ds m Φ Ψ → W_blame_product { nx := fun _ m' => retQ m Φ .non m', rt := retQ m Φ } (fun _ => retX m Ψ) (ds.map some ++ List.replicate (10 - ds.length) none) m := by
  intro ds m Φ Ψ _ h
  obtain ⟨L, R, C, a, b, c, ths, p, P, v, mn, rfl, H, hP, hP3, hv, hj, q⟩ := h
  have hp := H.sp
  have hb := hp.b
  have ha2 := H.a2
  have hb2 := H.b2
  have hc2 := H.c2
  have tl := H.tl
  obtain ⟨l1, l2, l3, l4⟩ := tkP_lens H
  change W_blame_product _ _ [some (.lst (L.map D.int)), some (.lst (R.map D.int)), some (.lst (C.map D.int)), some (szD a b c), some (.lst (ths.map D.int)), some (pairD P v), some (.int p), none, none, none] m
  unfold W_blame_product
  walk_at "stp"
  refine judge_ok H hP hP3 hv ?_
  rw [hj]
  obtain ⟨E1, E2, E3⟩ := dueV_facts (v := v) (mn := mn)
  walk_at "dx"
  refine ⟨by decide, E2, okE_tup (fun d hd => by
    rw [List.mem_singleton.mp hd]
    exact okE_sD (by decide +kernel)), ?_⟩
  rw [show eqD (dueV v mn) (.tup [.str (PySem.Str.ofString "believed")]) = decide (v = mn) from E3]
  unfold blD at q
  by_cases eV : v = mn
  rotate_left
  · rw [if_pos (decide_eq_false eV)]
    rw [if_neg (fun z => eV z.1)] at q
    exact retQ_id rfl q
  rw [if_neg (by simp [eV])]
  subst h1
  refine dSeq_k fun k1 h1 => ?_
  walk_at "dx"
  refine ⟨L, R, a, b, c, p, rfl, hp.pm, H.li, H.ri, H.ll, H.rl, by omega, by omega, by omega, ?_⟩
  obtain ⟨T, hT⟩ : ∃ T, T = mulT L R a b c p := ⟨_, rfl⟩
  have Tl : T.length = 2 ^ (a + c) := by rw [hT, mulT_len, Nat.pow_add, Nat.mul_comm]
  have Tin : InP p T := by rw [hT]; exact mulT_in (by omega)
  rw [← hT] at q ⊢
  walk_at "nxt"
  refine ⟨okE_ints, okE_ints, ?_⟩
  rw [eqD_ints]
  by_cases eC : C = T
  · rw [if_pos (decide_eq_true eC)]
    rw [if_neg (fun z => z.2 eC)] at q
    exact retQ_id rfl q
  rw [if_neg (fun z => eC (of_decide_eq_true z))]
  rw [if_pos ⟨eV, eC⟩] at q
  unfold szD
  subst h1
  refine dSeq_k fun k1 h1 => ?_
  walk_at "dx"
  refine ⟨_, rfl, _, rfl, ?_⟩
  walk_at "dx"
  rw [show ((a : Nat) : Int) + (c : Nat) = ((a + c : Nat) : Int) by omega]
  have ti := H.ti
  have tti : InP p (ths.take (a + c)) := fun x hx => ti x (List.mem_of_mem_take hx)
  have tdi : InP p (ths.drop (a + c)) := fun x hx => ti x (List.mem_of_mem_drop hx)
  walk_at "nxt"
  rw [cutT (by rw [List.length_map]; omega), ← List.map_take]
  refine ⟨C, _, p, rfl, hp.pm, H.ci, by rw [l4]; exact H.cl, by omega, ?_⟩
  refine ⟨T, _, p, rfl, hp.pm, Tin, by rw [l4]; exact Tl, by omega, rfl, rfl, ?_⟩
  rw [eqD_int]
  by_cases eA : valAt C (ths.take (a + c)) p = valAt T (ths.take (a + c)) p
  · rw [if_pos (decide_eq_true eA)]
    rw [if_pos eA] at q
    exact ⟨by decide, retQ_id rfl q⟩
  rw [if_neg (fun z => eA (of_decide_eq_true z))]
  rw [if_neg eA] at q
  subst h1
  refine dSeq_k fun k1 h1 => ?_
  walk_at "dx"
  rw [cutT (by rw [List.length_map]; omega), ← List.map_take]
  obtain ⟨M, sm⟩ := m
  refine ⟨M.length, p, L, R, a, b, c, ths.take (a + c), rfl, by
    show (M ++ [_])[M.length]? = _
    rw [List.getElem?_append_right (Nat.le_refl _), Nat.sub_self]
    rfl, hp.pm, H.li, H.ri, H.ll, H.rl, by omega, by omega, by omega, l4, rfl, ?_⟩
  have eF : (List.take a (ths.take (a + c))).foldl (foldS p) L = F0 L a ths p := by
    rw [List.take_take, Nat.min_eq_left (Nat.le_add_right a c)]
    rfl
  have eG : secT R ((ths.take (a + c)).drop a) b p = G0 R a b c ths p := rfl
  rw [eF, eG]
  obtain ⟨F, hF⟩ : ∃ F, F = F0 L a ths p := ⟨_, rfl⟩
  obtain ⟨G, hG⟩ : ∃ G, G = G0 R a b c ths p := ⟨_, rfl⟩
  have Fl : F.length = 2 ^ b := by rw [hF]; exact pfold_len _ _ b (by rw [l1]; exact H.ll)
  have Gl : G.length = 2 ^ b := by rw [hG]; exact secT_len
  have Fi : InP p F := by rw [hF]; exact foldl_inP (by omega) _ _ H.li
  have Gi : InP p G := by rw [hG]; exact secT_in (by omega)
  rw [← hF, ← hG] at q ⊢
  unfold pairD
  subst h1
  walk_at "dx"
  refine ⟨_, rfl, ?_⟩
  rw [cutR (by rw [List.length_map]; omega), ← List.map_drop]
  refine ⟨M.length, F, G, P, ths.drop (a + c), p, rfl, ⟨by
    show (M ++ [_])[M.length]? = _
    rw [List.getElem?_append_right (Nat.le_refl _), Nat.sub_self]
    rfl, hp.pm, Fi, Gi, by rw [Fl, Gl], by rw [Fl]; exact Nat.le_trans (Nat.pow_le_pow_right (by decide) hb2) (by decide)⟩, hp, tdi, by omega, by omega, hP3, fun o => ?_⟩
  refine ⟨by decide, ?_⟩
  show retQ _ _ _ ⟨(M ++ [_]).set M.length o, sm⟩
  rw [List.set_append_right _ _ (Nat.le_refl _), Nat.sub_self, List.set_cons_zero]
  refine ⟨M, [o], _, rfl, kept.rfl, .inl rfl, clD_pl _ ?_, q⟩
  refine plDs_of (ds := [sD "round", rnD _]) fun d hd => ?_
  rcases List.mem_cons.mp hd with rfl | hd
  · decide +kernel
  · rw [List.mem_singleton.mp hd]
    cases ragr p 0 F G P (ths.drop (a + c)) <;> rfl
/-! ### the plain law -/
theorem vec3 {v : List Int} (h : v.length = 3) : v = [Dl.gi v 0, Dl.gi v 1, Dl.gi v 2] := by
  match v, h with
  | [x, y, z], _ => rfl
theorem vec2 {v : List Int} (h : v.length = 2) : v = [Dl.gi v 0, Dl.gi v 1] := by
  match v, h with
  | [x, y], _ => rfl
theorem sameV_3 {a b : List Int} {p : Int} (ha : a.length = 3) (hb : b.length = 3) : sameV a b p = decide (a = b) := by
  rw [Bool.eq_iff_iff, decide_eq_true_iff]
  unfold sameV
  rw [ha, hb, show max 3 3 = 3 from rfl, List.all_eq_true]
  constructor
  · intro h
    have k : ∀ t : Nat, t < 3 → Dl.gi a (t : Nat) = Dl.gi b (t : Nat) := fun t ht => by
      have := of_decide_eq_true (h t (List.mem_range.mpr ht))
      rw [valV_nat (by omega), valV_nat (by omega)] at this
      exact this
    rw [vec3 ha, vec3 hb]
    have k0 := k 0 (by decide)
    have k1 := k 1 (by decide)
    have k2 := k 2 (by decide)
    rw [show Dl.gi a 0 = Dl.gi b 0 from k0, show Dl.gi a 1 = Dl.gi b 1 from k1, show Dl.gi a 2 = Dl.gi b 2 from k2]
  · rintro rfl t ht
    exact decide_eq_true rfl
theorem tlk_some {p : Int} {x : Option Nat} : ∀ (P : List (List Int)) (ths : List Int) (k : Nat) (f g : List Int) (cl : Int), (tlk p k f g P ths cl (some x)).2 = some x
  | [], [], _, _, _, _ => rfl
  | [], _ :: _, _, _, _, _ => rfl
  | _ :: _, [], _, _, _, _ => rfl
  | B :: P, t :: r, k, f, g, cl => by
    show (tlk p (k + 1) _ _ P r _ (if _ then _ else _)).2 = _
    rw [if_neg (fun z => by cases z.1)]
    exact tlk_some P r _ _ _ _
section
variable {Q : Nat → List Int → Int → List Int → Prop} {p : Int}
theorem snt_ask (hp : SmP p) (hQ : ∀ k mn cl B, Q k mn cl B → BlfOK cl p B) : ∀ (P : List (List Int)) (ths : List Int) (k : Nat) (f g : List Int) (cl : Int) (pl : Option (Option Nat)) (i : Nat), InP p ths → sntR Q p k f g P ths cl →
    askP p i cl P ths = .inr (tlk p k f g P ths cl pl).1 ∧ P.length = ths.length ∧ (∀ B ∈ P, B.length = 3 ∧ InP p B)
  | [], [], _, _, _, _, _, _, _, _ => ⟨rfl, rfl, fun B h => by cases h⟩
  | [], _ :: _, _, _, _, _, _, _, _, h => h.elim
  | _ :: _, [], _, _, _, _, _, _, _, h => h.elim
  | B :: P, t :: r, k, f, g, cl, pl, i, ht, h => by
    obtain ⟨b1, b2, b3⟩ := hQ _ _ _ _ h.1
    have t0 := ht t List.mem_cons_self
    obtain ⟨a1, a2, a3⟩ := snt_ask hp hQ P r (k + 1) (foldS p f t) (foldS p g t) (atV B t p) (if pl = none ∧ B ≠ joinP f g p ∧ atV B t p = atV (joinP f g p) t p then some (some k) else pl) (i + 1) (fun x hx => ht x (List.mem_cons_of_mem _ hx)) h.2
    have ec : cornV B p = cl := by
      unfold cornV
      rw [if_neg (by omega)]
      exact b3
    refine ⟨?_, by rw [List.length_cons, List.length_cons, a2], fun B' hB' => ?_⟩
    · show (if decide (B.length = 3) && (B.all (fun x => decide (0 ≤ x ∧ x < p)) && decide (cornV B p = cl)) then askP p (i + 1) (valV B t p) P r else .inl i) = _
      rw [decide_eq_true b1, all_inP b2, decide_eq_true ec, if_pos (by rfl : (true && (true && true)) = true), ← atV_val hp b1 b2 t0.1]
      exact a1
    · rcases List.mem_cons.mp hB' with rfl | hB'
      · exact ⟨b1, b2⟩
      · exact a3 B' hB'
/-- a wrong claim stays wrong where nothing agrees -/
theorem tlk_sound (hp : SmP p) (hQ : ∀ k mn cl B, Q k mn cl B → BlfOK cl p B) : ∀ (P : List (List Int)) (ths : List Int) (k : Nat) (f g : List Int) (cl : Int), InP p ths → sntR Q p k f g P ths cl → f.length = 2 ^ ths.length → g.length = 2 ^ ths.length →
    cl ≠ tot2 f g (2 ^ ths.length) % p → (tlk p k f g P ths cl none).2 = none → (tlk p k f g P ths cl none).1 ≠ tot2 (ths.foldl (foldS p) f) (ths.foldl (foldS p) g) 1 % p
  | [], [], _, _, _, _, _, _, _, _, h, _ => h
  | [], _ :: _, _, _, _, _, _, h, _, _, _, _ => h.elim
  | _ :: _, [], _, _, _, _, _, h, _, _, _, _ => h.elim
  | B :: P, t :: r, k, f, g, cl, ht, h, hf, hg, hc, hn => by
    obtain ⟨b1, b2, b3⟩ := hQ _ _ _ _ h.1
    have hb := hp.b
    have t0 := ht t List.mem_cons_self
    rw [List.length_cons, Nat.pow_succ, Nat.mul_comm] at hf hg
    rw [List.length_cons, Nat.pow_succ, Nat.mul_comm] at hc
    have ej := joinP_corn (p := p) hf hg
    have ev := joinP_val (p := p) (z := t) (by omega) hp.pr (by omega) hf hg t0.1
    have jl : (joinP f g p).length = 3 := joinP_len
    have ji : InP p (joinP f g p) := joinP_in (by omega)
    have ec : cornV B p = cl := by
      unfold cornV
      rw [if_neg (by omega)]
      exact b3
    have ne : B ≠ joinP f g p := fun z => hc (by rw [← ec, z, ej])
    have hn : (tlk p (k + 1) (foldS p f t) (foldS p g t) P r (atV B t p) (if (none : Option (Option Nat)) = none ∧ B ≠ joinP f g p ∧ atV B t p = atV (joinP f g p) t p then some (some k) else none)).2 = none := hn
    have na : atV B t p ≠ atV (joinP f g p) t p := fun z => by
      rw [if_pos ⟨rfl, ne, z⟩, tlk_some] at hn
      cases hn
    rw [if_neg (fun z => na z.2.2)] at hn
    show (tlk p (k + 1) (foldS p f t) (foldS p g t) P r (atV B t p) (if (none : Option (Option Nat)) = none ∧ B ≠ joinP f g p ∧ atV B t p = atV (joinP f g p) t p then some (some k) else none)).1 ≠ _
    rw [if_neg (fun z => na z.2.2)]
    refine tlk_sound hp hQ P r (k + 1) _ _ _ (fun x hx => ht x (List.mem_cons_of_mem _ hx)) h.2 (by rw [foldS_len]; omega) (by rw [foldS_len]; omega) ?_ hn
    rw [← ev, ← atV_val hp jl ji t0.1]
    exact na
theorem tlk_ragr (hp : SmP p) (hQ : ∀ k mn cl B, Q k mn cl B → BlfOK cl p B) : ∀ (P : List (List Int)) (ths : List Int) (k : Nat) (f g : List Int) (cl : Int), InP p ths → sntR Q p k f g P ths cl → (tlk p k f g P ths cl none).2 = (ragr p k f g P ths).map some
  | [], [], _, _, _, _, _, _ => rfl
  | [], _ :: _, _, _, _, _, _, h => h.elim
  | _ :: _, [], _, _, _, _, _, h => h.elim
  | B :: P, t :: r, k, f, g, cl, ht, h => by
    obtain ⟨b1, b2, b3⟩ := hQ _ _ _ _ h.1
    have hb := hp.b
    have t0 := ht t List.mem_cons_self
    have jl : (joinP f g p).length = 3 := joinP_len
    have ji : InP p (joinP f g p) := joinP_in (by omega)
    show (tlk p (k + 1) (foldS p f t) (foldS p g t) P r (atV B t p) (if (none : Option (Option Nat)) = none ∧ B ≠ joinP f g p ∧ atV B t p = atV (joinP f g p) t p then some (some k) else none)).2 = Option.map some (if sameV B (joinP f g p) p = false ∧ valV B t p = valV (joinP f g p) t p then some k else ragr p (k + 1) (foldS p f t) (foldS p g t) P r)
    rw [sameV_3 b1 jl, ← atV_val hp b1 b2 t0.1, ← atV_val hp jl ji t0.1]
    by_cases e : B ≠ joinP f g p ∧ atV B t p = atV (joinP f g p) t p
    · rw [if_pos ⟨rfl, e⟩, if_pos ⟨decide_eq_false e.1, e.2⟩, tlk_some]
      rfl
    · rw [if_neg (fun z => e z.2), if_neg (fun z => e ⟨of_decide_eq_false z.1, z.2⟩)]
      exact tlk_ragr hp hQ P r (k + 1) _ _ _ (fun x hx => ht x (List.mem_cons_of_mem _ hx)) h.2
end
theorem pairF_ok {u w cl p : Int} (hp : SmP p) (u0 : 0 ≤ u ∧ u < p) (w0 : 0 ≤ w ∧ w < p) (c0 : 0 ≤ cl ∧ cl < p) : (pairF u w cl p).length = 2 ∧ InP p (pairF u w cl p) ∧ Dl.gi (pairF u w cl p) 0 * Dl.gi (pairF u w cl p) 1 % p = cl := by
  have hb := hp.b
  have two : ∀ x y : Int, (0 ≤ x ∧ x < p) → (0 ≤ y ∧ y < p) → InP p [x, y] := fun x y hx hy z hz => by
    rcases List.mem_cons.mp hz with rfl | hz
    · exact hx
    · rw [List.mem_singleton.mp hz]
      exact hy
  have md : ∀ z : Int, 0 ≤ z % p ∧ z % p < p := fun z => mod_in (by omega)
  unfold pairF
  by_cases e1 : u * w % p = cl
  · rw [if_pos e1]
    exact ⟨rfl, two _ _ u0 w0, e1⟩
  rw [if_neg e1]
  by_cases e2 : u = 0
  rotate_left
  · rw [if_pos e2]
    refine ⟨rfl, two _ _ u0 (md _), ?_⟩
    show u * (cl * invI u p % p) % p = cl
    have : Cg p (u * (cl * invI u p % p)) cl := by
      refine (Cg.mul .refl Cg.mod).trans ?_
      refine (Cg.of_eq (show u * (cl * invI u p) = cl * (invI u p * u) by grind)).trans ?_
      exact (Cg.mul .refl (invI_mul hp (by omega) u0.2)).trans (.of_eq (Int.mul_one _))
    have e : u * (cl * invI u p % p) % p = cl % p := this
    rw [e, Int.emod_eq_of_lt c0.1 c0.2]
  rw [if_neg (fun z => z e2)]
  by_cases e3 : w = 0
  rotate_left
  · rw [if_pos e3]
    refine ⟨rfl, two _ _ (md _) w0, ?_⟩
    show cl * invI w p % p * w % p = cl
    have : Cg p (cl * invI w p % p * w) cl := by
      refine (Cg.mul Cg.mod .refl).trans ?_
      refine (Cg.of_eq (Int.mul_assoc _ _ _)).trans ?_
      exact (Cg.mul .refl (invI_mul hp (by omega) w0.2)).trans (.of_eq (Int.mul_one _))
    have e : cl * invI w p % p * w % p = cl % p := this
    rw [e, Int.emod_eq_of_lt c0.1 c0.2]
  rw [if_neg (fun z => z e3)]
  refine ⟨rfl, two _ _ (by omega) c0, ?_⟩
  show 1 * cl % p = cl
  rw [Int.one_mul, Int.emod_eq_of_lt c0.1 c0.2]
section
variable {L R C : List Int} {a b c : Nat} {ths : List Int} {p : Int}
theorem TkP.split (H : TkP L R C a b c ths p) : ths.take (a + c) = ths.take a ++ (ths.take (a + c)).drop a := by
  have e := (List.take_append_drop a (ths.take (a + c))).symm
  rw [List.take_take, Nat.min_eq_left (Nat.le_add_right a c)] at e
  exact e
theorem TkP.f0 (H : TkP L R C a b c ths p) : (F0 L a ths p).length = 2 ^ b ∧ InP p (F0 L a ths p) := by
  obtain ⟨l1, l2, l3, l4⟩ := tkP_lens H
  exact ⟨pfold_len _ _ b (by rw [l1]; exact H.ll), foldl_inP H.sp.pm.1 _ _ H.li⟩
theorem TkP.g0 (H : TkP L R C a b c ths p) : (G0 R a b c ths p).length = 2 ^ b ∧ InP p (G0 R a b c ths p) := ⟨secT_len, secT_in H.sp.pm.1⟩
theorem TkP.claim (H : TkP L R C a b c ths p) : mle (mulT L R a b c p) (ths.take (a + c)) % p = tot2 (F0 L a ths p) (G0 R a b c ths p) (2 ^ b) % p := by
  obtain ⟨l1, l2, l3, l4⟩ := tkP_lens H
  have e := mulT_mle (p := p) (L := L) (R := R) (rp := ths.take a) (cp := (ths.take (a + c)).drop a) (b := b) (by rw [l1]; exact H.ll)
  rw [l1, l2, ← H.split] at e
  exact e
theorem TkP.val0 (H : TkP L R C a b c ths p) : valAt L (ths.take a ++ ths.drop (a + c)) p = Dl.gi (mnV L R a b c ths p) 0 := by
  obtain ⟨l1, l2, l3, l4⟩ := tkP_lens H
  have e1 := mle_app (p := p) (ths.take a) (ths.drop (a + c)) L (by rw [l1, l3]; exact H.ll)
  have e2 := foldS_wt (p := p) (ths.drop (a + c)) (F0 L a ths p) (by rw [l3]; exact H.f0.1)
  rw [valAt_mle (by rw [List.length_append, l1, l3]; exact H.ll)]
  exact (e2.trans e1.symm).symm
theorem TkP.val1 (H : TkP L R C a b c ths p) : valAt R (ths.drop (a + c) ++ (ths.take (a + c)).drop a) p = Dl.gi (mnV L R a b c ths p) 1 := by
  obtain ⟨l1, l2, l3, l4⟩ := tkP_lens H
  have e1 := snd_mle (p := p) (R := R) (y := (ths.take (a + c)).drop a) (z := ths.drop (a + c)) (b := b) l3
  have e2 := foldS_wt (p := p) (ths.drop (a + c)) (G0 R a b c ths p) (by rw [l3]; exact H.g0.1)
  rw [valAt_mle (by rw [List.length_append, l3, l2]; exact H.rl)]
  exact (e2.trans e1).symm
theorem mnV_in (H : TkP L R C a b c ths p) : (0 ≤ Dl.gi (mnV L R a b c ths p) 0 ∧ Dl.gi (mnV L R a b c ths p) 0 < p) ∧ (0 ≤ Dl.gi (mnV L R a b c ths p) 1 ∧ Dl.gi (mnV L R a b c ths p) 1 < p) := ⟨mod_in H.sp.pm.1, mod_in H.sp.pm.1⟩
theorem mnV_prod (H : TkP L R C a b c ths p) : Dl.gi (mnV L R a b c ths p) 0 * Dl.gi (mnV L R a b c ths p) 1 % p = tot2 ((ths.drop (a + c)).foldl (foldS p) (F0 L a ths p)) ((ths.drop (a + c)).foldl (foldS p) (G0 R a b c ths p)) 1 % p := by
  have : Cg p (Dl.gi (mnV L R a b c ths p) 0 * Dl.gi (mnV L R a b c ths p) 1) (tot2 ((ths.drop (a + c)).foldl (foldS p) (F0 L a ths p)) ((ths.drop (a + c)).foldl (foldS p) (G0 R a b c ths p)) 1) := by
    refine (Cg.mul Cg.mod Cg.mod).trans (.of_eq ?_)
    show _ = 0 + _
    rw [Int.zero_add]
    rfl
  exact this
theorem sndQ_ok {seed : Int} {z : Nat} : ∀ (k : Nat) mn cl B, (fun k => sndQ seed ths p (z + k)) k mn cl B → BlfOK cl p B := fun k mn cl B h => h.1
def SntP (seed : Int) (L R C : List Int) (a b c : Nat) (ths : List Int) (p : Int) (P : List (List Int)) : Prop := sntR (fun k => sndQ seed ths p (a + c + k)) p 0 (F0 L a ths p) (G0 R a b c ths p) P (ths.drop (a + c)) (mle C (ths.take (a + c)) % p)
structure TkF (L R C : List Int) (a b c : Nat) (ths : List Int) (p : Int) (P : List (List Int)) (v mn : List Int) : Prop where
  pl : P.length = b
  p3 : ∀ B ∈ P, B.length = 3 ∧ InP p B
  vl : v.length = 2
  vi : InP p v
  jp : jpD L R C a c ths P v p = dueV v mn
  bl : blD L R C a b c ths p P v mn = if C ≠ mulT L R a b c p ∧ v = mn then plD (tkE L R C a b c ths p P).2 else .non
  nn : C ≠ mulT L R a b c p → v = mn → (tkE L R C a b c ths p P).2 ≠ none
theorem tk_facts {seed : Int} {P : List (List Int)} (H : TkP L R C a b c ths p) (S : SntP seed L R C a b c ths p P) : TkF L R C a b c ths p P (tkV L R C a b c ths p P) (mnV L R a b c ths p) := by
  obtain ⟨l1, l2, l3, l4⟩ := tkP_lens H
  have hp := H.sp
  have hb := hp.b
  have ti := H.ti
  have tdi : InP p (ths.drop (a + c)) := fun x hx => ti x (List.mem_of_mem_drop hx)
  obtain ⟨pl0, hpl0⟩ : ∃ pl0 : Option (Option Nat), pl0 = if mle C (ths.take (a + c)) % p = mle (mulT L R a b c p) (ths.take (a + c)) % p then some none else none := ⟨_, rfl⟩
  obtain ⟨A1, A2, A3⟩ := snt_ask hp (sndQ_ok (z := a + c)) P (ths.drop (a + c)) 0 _ _ _ pl0 0 tdi S
  have etk : tkE L R C a b c ths p P = tlk p 0 (F0 L a ths p) (G0 R a b c ths p) P (ths.drop (a + c)) (mle C (ths.take (a + c)) % p) pl0 := by rw [hpl0]; rfl
  rw [← etk] at A1
  obtain ⟨m1, m2⟩ := mnV_in H
  have ce : 0 ≤ (tkE L R C a b c ths p P).1 ∧ (tkE L R C a b c ths p P).1 < p := by
    rw [etk]
    have key : ∀ (P : List (List Int)) (th : List Int) (k : Nat) (f g : List Int) (cl : Int) (pl : Option (Option Nat)), 0 ≤ cl ∧ cl < p → 0 ≤ (tlk p k f g P th cl pl).1 ∧ (tlk p k f g P th cl pl).1 < p := by
      intro P
      induction P with
      | nil => intro th k f g cl pl h; cases th <;> exact h
      | cons B P ih =>
        intro th k f g cl pl h
        cases th with
        | nil => exact h
        | cons t r => exact ih r _ _ _ _ _ (mod_in (by omega))
    exact key _ _ _ _ _ _ _ (mod_in (by omega))
  obtain ⟨v1, v2, v3⟩ := pairF_ok hp m1 m2 ce
  have ev : pairF (Dl.gi (mnV L R a b c ths p) 0) (Dl.gi (mnV L R a b c ths p) 1) (tkE L R C a b c ths p P).1 p = tkV L R C a b c ths p P := rfl
  rw [ev] at v1 v2 v3
  have Cv : valAt C (ths.take (a + c)) p = mle C (ths.take (a + c)) % p := valAt_mle (by rw [l4]; exact H.cl)
  have Tv : valAt (mulT L R a b c p) (ths.take (a + c)) p = mle (mulT L R a b c p) (ths.take (a + c)) % p := valAt_mle (by rw [mulT_len, l4, Nat.pow_add, Nat.mul_comm])
  have nn : C ≠ mulT L R a b c p → tkV L R C a b c ths p P = mnV L R a b c ths p → (tkE L R C a b c ths p P).2 ≠ none := by
    intro hC hv hn
    rw [etk] at hn
    by_cases e : mle C (ths.take (a + c)) % p = mle (mulT L R a b c p) (ths.take (a + c)) % p
    · rw [if_pos e] at hpl0
      rw [hpl0, tlk_some] at hn
      cases hn
    · rw [if_neg e] at hpl0
      rw [hpl0] at hn
      have so := tlk_sound hp (sndQ_ok (z := a + c)) P (ths.drop (a + c)) 0 _ _ _ tdi S (by rw [l3]; exact H.f0.1) (by rw [l3]; exact H.g0.1) (by rw [l3, ← H.claim]; exact e) hn
      rw [← mnV_prod H] at so
      refine so ?_
      rw [hv] at v3
      rw [v3, etk, hpl0]
  refine ⟨by rw [A2, l3], A3, v1, v2, ?_, ?_, nn⟩
  · unfold jpD askR
    rw [Cv, A1]
    dsimp only
    have pk : pairOk (tkV L R C a b c ths p P) p (tkE L R C a b c ths p P).1 = true := by
      unfold pairOk
      rw [decide_eq_true v1, all_inP v2, decide_eq_true v3]
      rfl
    rw [if_pos pk]
    dsimp only
    rw [H.val0, H.val1]
    unfold dueV
    by_cases e : tkV L R C a b c ths p P = mnV L R a b c ths p
    · rw [if_pos e, e, if_pos rfl, if_pos rfl]
    · rw [if_neg e]
      by_cases e0 : Dl.gi (tkV L R C a b c ths p P) 0 = Dl.gi (mnV L R a b c ths p) 0
      · rw [if_pos e0, if_pos e0.symm, if_neg]
        intro z
        refine e ?_
        rw [vec2 v1, e0, ← z]
        rfl
      · rw [if_neg e0, if_neg (fun z => e0 z.symm)]
  · unfold blD
    by_cases e : tkV L R C a b c ths p P = mnV L R a b c ths p ∧ C ≠ mulT L R a b c p
    · rw [if_pos e, if_pos (⟨e.2, e.1⟩ : C ≠ mulT L R a b c p ∧ tkV L R C a b c ths p P = mnV L R a b c ths p), Cv, Tv]
      by_cases e2 : mle C (ths.take (a + c)) % p = mle (mulT L R a b c p) (ths.take (a + c)) % p
      · rw [if_pos e2]
        rw [if_pos e2] at hpl0
        rw [etk, hpl0, tlk_some]
        rfl
      · rw [if_neg e2]
        rw [if_neg e2] at hpl0
        have n1 := nn e.2 e.1
        rw [etk, hpl0] at n1 ⊢
        rw [tlk_ragr hp (sndQ_ok (z := a + c)) P (ths.drop (a + c)) 0 _ _ _ tdi S] at n1 ⊢
        cases hr : ragr p 0 (F0 L a ths p) (G0 R a b c ths p) P (ths.drop (a + c)) with
        | none => rw [hr] at n1; exact absurd rfl n1
        | some k => rfl
    · rw [if_neg e, if_neg (fun z => e ⟨z.2, z.1⟩)]
end
/-! ### counting -/
def stP (Qf : Nat → List Int → Int → List Int) (p : Int) : Nat → List Int → List Int → List Int → Int → List (List Int)
  | k, f, g, t :: r, cl => Qf k (joinP f g p) cl :: stP Qf p (k + 1) (foldS p f t) (foldS p g t) r (atV (Qf k (joinP f g p) cl) t p)
  | _, _, _, [], _ => []
theorem snt_det {Q : Nat → List Int → Int → List Int → Prop} {Qf : Nat → List Int → Int → List Int} {p : Int} (h : ∀ k mn cl B, Q k mn cl B → B = Qf k mn cl) : ∀ (P : List (List Int)) (ths : List Int) (k : Nat) (f g : List Int) (cl : Int), sntR Q p k f g P ths cl → P = stP Qf p k f g ths cl
  | [], [], _, _, _, _, _ => rfl
  | [], _ :: _, _, _, _, _, z => z.elim
  | _ :: _, [], _, _, _, _, z => z.elim
  | B :: P, t :: r, k, f, g, cl, z => by
    have e := h _ _ _ _ z.1
    have ih := snt_det h P r _ _ _ _ z.2
    show B :: P = _ :: _
    rw [ih, e]
def qfE (seed : Int) (ths : List Int) (p : Int) (n k : Nat) (mn : List Int) (cl : Int) : List Int := blfI (mixI (sdE seed ths (n + k))) mn cl (drwI (sdE seed ths (n + k)) p) p
def stE (seed : Int) (L R C : List Int) (a b c : Nat) (ths : List Int) (p : Int) : List (List Int) := stP (qfE seed ths p (a + c)) p 0 (F0 L a ths p) (G0 R a b c ths p) (ths.drop (a + c)) (mle C (ths.take (a + c)) % p)
theorem snt_stE {seed : Int} {L R C : List Int} {a b c : Nat} {ths : List Int} {p : Int} {P : List (List Int)} (hs : 0 < seed) (h : SntP seed L R C a b c ths p P) : P = stE seed L R C a b c ths p :=
  snt_det (fun k mn cl B z => z.2 hs) P _ _ _ _ _ h
def evE (seed : Int) (L R C : List Int) (a b c : Nat) (ths : List Int) : Bool := (tkE L R C a b c ths 5 (stE seed L R C a b c ths 5)).2.isSome
theorem blfI_in {s cl g p : Int} {mn : List Int} (hp : 2 ≤ p) (hl : mn.length = 3) (hi : InP p mn) : (blfI s mn cl g p).length = 3 ∧ InP p (blfI s mn cl g p) := by
  have hL : ∀ d0 d2 b, (blfL mn cl g p d0 d2 b).length = 3 ∧ InP p (blfL mn cl g p d0 d2 b) := fun d0 d2 b => by
    refine ⟨rfl, fun x hx => ?_⟩
    unfold blfL at hx
    simp only [List.mem_cons, List.not_mem_nil, or_false] at hx
    rcases hx with rfl | rfl | rfl <;> exact mod_in hp
  unfold blfI
  split
  · exact ⟨hl, hi⟩
  · exact hL _ _ _
theorem quad5 (x y z H t : Int) : x * (t - 1) * (t - 2) * H - y * t * (t - 2) + z * t * (t - 1) * H = x * 2 * H + t * (2 * y - 3 * x * H - z * H + t * (x * H - y + z * H + t * 0)) := by
  grind
def quF (v : List Int) (p t : Int) : Int := Dl.gi v 0 * (t - 1) * (t - 2) * ((p + 1) / 2) - Dl.gi v 1 * t * (t - 2) + Dl.gi v 2 * t * (t - 1) * ((p + 1) / 2)
theorem quF_pol {v : List Int} {p : Int} : Pol p 2 (quF v p) := ⟨[Dl.gi v 0 * 2 * ((p + 1) / 2), 2 * Dl.gi v 1 - 3 * Dl.gi v 0 * ((p + 1) / 2) - Dl.gi v 2 * ((p + 1) / 2), Dl.gi v 0 * ((p + 1) / 2) - Dl.gi v 1 + Dl.gi v 2 * ((p + 1) / 2)], Nat.le_refl 3, fun t => .of_eq (by
  exact quad5 _ _ _ _ _)⟩
theorem sm5 : SmP 5 := .inr (.inl rfl)
theorem few_at {B M : List Int} (hB : B.length = 3 ∧ InP 5 B) (hM : M.length = 3 ∧ InP 5 M) (hne : B ≠ M) : (List.range 5).countP (fun t : Nat => decide (atV B (t : Nat) 5 = atV M (t : Nat) 5)) ≤ 2 := by
  have ex : ∃ j : Nat, j < 3 ∧ Dl.gi B (j : Nat) ≠ Dl.gi M (j : Nat) := by
    by_cases h : ∃ j : Nat, j < 3 ∧ Dl.gi B (j : Nat) ≠ Dl.gi M (j : Nat)
    · exact h
    · exfalso
      have k : ∀ j : Nat, j < 3 → Dl.gi B (j : Nat) = Dl.gi M (j : Nat) := fun j hj => by
        by_cases e : Dl.gi B (j : Nat) = Dl.gi M (j : Nat)
        · exact e
        · exact absurd ⟨j, hj, e⟩ h
      refine hne ?_
      rw [vec3 hB.1, vec3 hM.1]
      rw [show Dl.gi B 0 = Dl.gi M 0 from k 0 (by decide), show Dl.gi B 1 = Dl.gi M 1 from k 1 (by decide), show Dl.gi B 2 = Dl.gi M 2 from k 2 (by decide)]
  obtain ⟨j, hj, ne⟩ := ex
  refine few_pol (p := 5) (d := 2) sm5.pr (by decide) (quF_pol (v := B)) (quF_pol (v := M)) (z := (j : Nat)) (fun z => ne ?_) _ fun t ht => ?_
  rotate_left
  · have e : atV B (t : Nat) 5 = atV M (t : Nat) 5 := of_decide_eq_true ht
    exact e
  have z : atV B (j : Nat) 5 = atV M (j : Nat) 5 := z
  rw [atV_val sm5 hB.1 hB.2 (Int.natCast_nonneg j), atV_val sm5 hM.1 hM.2 (Int.natCast_nonneg j), valV_nat (by omega), valV_nat (by omega)] at z
  exact z
theorem mle1 {T : List Int} {t : Int} : mle T [t] = Dl.gi T 0 * (1 - t) + Dl.gi T 1 * t := by
  rw [mle_at]
  show 0 + 1 * atN T 0 t = _
  unfold atN
  rw [Int.zero_add, Int.one_mul]
  show Dl.gi T 0 + t * (Dl.gi T 1 - Dl.gi T 0) = _
  grind
theorem few_cl {C T : List Int} (hC : C.length = 2 ∧ InP 5 C) (hT : T.length = 2 ∧ InP 5 T) (hne : C ≠ T) : (List.range 5).countP (fun t : Nat => decide (mle C [(t : Nat)] % 5 = mle T [(t : Nat)] % 5)) ≤ 1 := by
  have pol : ∀ X : List Int, Pol 5 1 fun t => mle X [t] := fun X => ⟨[Dl.gi X 0, Dl.gi X 1 - Dl.gi X 0], Nat.le_refl 2, fun t => .of_eq (by
    show mle X [t] = _
    rw [mle1]
    show _ = Dl.gi X 0 + t * (Dl.gi X 1 - Dl.gi X 0 + t * 0)
    grind)⟩
  have cmp : ∀ x y : Int, (0 ≤ x ∧ x < 5) → (0 ≤ y ∧ y < 5) → Cg 5 x y → x = y := fun x y hx hy h => h.eq hx hy
  have inn : ∀ X : List Int, X.length = 2 → InP 5 X → (0 ≤ Dl.gi X 0 ∧ Dl.gi X 0 < 5) ∧ (0 ≤ Dl.gi X 1 ∧ Dl.gi X 1 < 5) := fun X hl hi => ⟨gi_in hi (by decide) (by omega), gi_in hi (by decide) (by omega)⟩
  have c := inn C hC.1 hC.2
  have d := inn T hT.1 hT.2
  by_cases e0 : Dl.gi C 0 = Dl.gi T 0
  · have e1 : Dl.gi C 1 ≠ Dl.gi T 1 := fun e1 => hne (by rw [vec2 hC.1, vec2 hT.1, e0, e1])
    refine few_pol (p := 5) (d := 1) sm5.pr (by decide) (pol C) (pol T) (z := 1) (fun z => e1 (cmp _ _ c.2 d.2 ?_)) _ fun t ht => ?_
    rotate_left
    · have e : mle C [(t : Nat)] % 5 = mle T [(t : Nat)] % 5 := of_decide_eq_true ht
      exact e
    have z : Cg 5 (mle C [1]) (mle T [1]) := z
    rw [mle1, mle1] at z
    simpa using z
  · refine few_pol (p := 5) (d := 1) sm5.pr (by decide) (pol C) (pol T) (z := 0) (fun z => e0 (cmp _ _ c.1 d.1 ?_)) _ fun t ht => ?_
    rotate_left
    · have e : mle C [(t : Nat)] % 5 = mle T [(t : Nat)] % 5 := of_decide_eq_true ht
      exact e
    have z : Cg 5 (mle C [0]) (mle T [0]) := z
    rw [mle1, mle1] at z
    simpa using z
theorem step_in {f g : List Int} {s cl q : Int} : (blfI s (joinP f g 5) cl q 5).length = 3 ∧ InP 5 (blfI s (joinP f g 5) cl q 5) := blfI_in (by decide) joinP_len (joinP_in (by decide))
/-- one round from f, g, with a claim and a seed that do not look at the throw -/
def rndE (f g : List Int) (s cl q : Int) (t : Nat) : Bool := decide (blfI s (joinP f g 5) cl q 5 ≠ joinP f g 5 ∧ atV (blfI s (joinP f g 5) cl q 5) (t : Nat) 5 = atV (joinP f g 5) (t : Nat) 5)
theorem rndE_few {f g : List Int} {s cl q : Int} : (List.range 5).countP (rndE f g s cl q) ≤ 2 := by
  by_cases e : blfI s (joinP f g 5) cl q 5 = joinP f g 5
  · rw [List.countP_eq_zero.mpr fun t _ h => (of_decide_eq_true h).1 e]
    exact Nat.zero_le _
  · refine Nat.le_trans (List.countP_mono_left fun t _ h => ?_) (few_at step_in ⟨joinP_len, joinP_in (by decide)⟩ e)
    exact decide_eq_true (of_decide_eq_true h).2
section
variable {seed : Int} {L R C : List Int}
/-- one round, whose claim is wrong at the start -/
theorem ev_010 (hC : C.length = 1 ∧ InP 5 C) (hne : C ≠ mulT L R 0 1 0 5) : (List.range 5).countP (fun i => evE seed L R C 0 1 0 [((i % 5 : Nat) : Int)]) ≤ 2 := by
  refine Nat.le_trans (List.countP_mono_left fun t ht h => ?_) (rndE_few (f := F0 L 0 [] 5) (g := G0 R 0 1 0 [] 5) (s := mixI (sdE seed [] 0)) (cl := mle C [] % 5) (q := drwI (sdE seed [] 0) 5))
  have ht := List.mem_range.mp ht
  rw [Nat.mod_eq_of_lt ht] at h
  have Tl : (mulT L R 0 1 0 5).length = 1 := mulT_len
  have n0 : mle C [] % 5 ≠ mle (mulT L R 0 1 0 5) [] % 5 := fun z => by
    have c := gi_in hC.2 (z := 0) (by decide) (by omega)
    have d := gi_in (mulT_in (L := L) (R := R) (a := 0) (b := 1) (c := 0) (p := 5) (by decide)) (z := 0) (by decide) (by omega)
    rw [mle_nil, mle_nil, Int.emod_eq_of_lt c.1 c.2, Int.emod_eq_of_lt d.1 d.2] at z
    refine hne ?_
    match C, hC.1, mulT L R 0 1 0 5, Tl, z with
    | [x], _, [y], _, z => rw [show x = y from z]
  unfold evE tkE at h
  have h : ((if mle C [] % 5 = mle (mulT L R 0 1 0 5) [] % 5 then (some none : Option (Option Nat)) else none) |> fun pl0 => (if pl0 = none ∧ blfI (mixI (sdE seed [(t : Int)] 0)) (joinP (F0 L 0 [] 5) (G0 R 0 1 0 [] 5) 5) (mle C [] % 5) (drwI (sdE seed [(t : Int)] 0) 5) 5 ≠ joinP (F0 L 0 [] 5) (G0 R 0 1 0 [] 5) 5 ∧ atV (blfI (mixI (sdE seed [(t : Int)] 0)) (joinP (F0 L 0 [] 5) (G0 R 0 1 0 [] 5) 5) (mle C [] % 5) (drwI (sdE seed [(t : Int)] 0) 5) 5) (t : Int) 5 = atV (joinP (F0 L 0 [] 5) (G0 R 0 1 0 [] 5) 5) (t : Int) 5 then some (some 0) else pl0)).isSome = true := h
  rw [if_neg n0] at h
  dsimp only at h
  split at h
  · rename_i z
    exact decide_eq_true z.2
  · cases h
end
theorem tlk1 {f g B : List Int} {u cl : Int} {pl : Option (Option Nat)} (h : (tlk 5 0 f g [B] [u] cl pl).2.isSome = true) : pl.isSome = true ∨ (B ≠ joinP f g 5 ∧ atV B u 5 = atV (joinP f g 5) u 5) := by
  have h : (if pl = none ∧ B ≠ joinP f g 5 ∧ atV B u 5 = atV (joinP f g 5) u 5 then (some (some 0) : Option (Option Nat)) else pl).isSome = true := h
  split at h
  · rename_i z
    exact .inr z.2
  · exact .inl h
theorem tlk2 {f g B D' : List Int} {t u cl : Int} {pl : Option (Option Nat)} (h : (tlk 5 0 f g [B, D'] [t, u] cl pl).2.isSome = true) : pl.isSome = true ∨ (B ≠ joinP f g 5 ∧ atV B t 5 = atV (joinP f g 5) t 5) ∨ (D' ≠ joinP (foldS 5 f t) (foldS 5 g t) 5 ∧ atV D' u 5 = atV (joinP (foldS 5 f t) (foldS 5 g t) 5) u 5) := by
  obtain ⟨pl1, h1⟩ : ∃ pl1 : Option (Option Nat), pl1 = if pl = none ∧ B ≠ joinP f g 5 ∧ atV B t 5 = atV (joinP f g 5) t 5 then some (some 0) else pl := ⟨_, rfl⟩
  have h : (if pl1 = none ∧ D' ≠ joinP (foldS 5 f t) (foldS 5 g t) 5 ∧ atV D' u 5 = atV (joinP (foldS 5 f t) (foldS 5 g t) 5) u 5 then (some (some 1) : Option (Option Nat)) else pl1).isSome = true := by
    rw [h1]
    exact h
  split at h
  · rename_i z
    exact .inr (.inr z.2)
  · rw [h1] at h
    split at h
    · rename_i z
      exact .inr (.inl z.2)
    · exact .inl h
section
variable {seed : Int} {L R C : List Int}
theorem ev_100 (hC : C.length = 2 ∧ InP 5 C) (hne : C ≠ mulT L R 1 0 0 5) : (List.range 5).countP (fun i => evE seed L R C 1 0 0 [((i % 5 : Nat) : Int)]) ≤ 1 := by
  refine Nat.le_trans (List.countP_mono_left fun t ht h => ?_) (few_cl hC ⟨mulT_len, mulT_in (by decide)⟩ hne)
  have ht := List.mem_range.mp ht
  rw [Nat.mod_eq_of_lt ht] at h
  have h : (if mle C [(t : Int)] % 5 = mle (mulT L R 1 0 0 5) [(t : Int)] % 5 then (some none : Option (Option Nat)) else none).isSome = true := h
  split at h
  · rename_i e
    exact decide_eq_true e
  · cases h
theorem ev_110 (hC : C.length = 2 ∧ InP 5 C) (hne : C ≠ mulT L R 1 1 0 5) : (List.range 25).countP (fun i => evE seed L R C 1 1 0 [((i % 5 : Nat) : Int), ((i / 5 % 5 : Nat) : Int)]) ≤ 15 :=
  two_throws (α := 1) (β := 2) (A := fun t => decide (mle C [(t : Int)] % 5 = mle (mulT L R 1 1 0 5) [(t : Int)] % 5)) (B := fun t => rndE (F0 L 1 [(t : Int)] 5) (G0 R 1 1 0 [(t : Int)] 5) (mixI (sdE seed [(t : Int)] 1)) (mle C [(t : Int)] % 5) (drwI (sdE seed [(t : Int)] 1) 5))
    (few_cl hC ⟨mulT_len, mulT_in (by decide)⟩ hne) (fun t _ => rndE_few) fun i hi h => by
    rw [Nat.mod_eq_of_lt (show i / 5 < 5 by omega)] at h
    generalize i % 5 = t at h ⊢
    generalize i / 5 = u at h ⊢
    have z := tlk1 (f := F0 L 1 [(t : Int)] 5) (g := G0 R 1 1 0 [(t : Int)] 5) (B := blfI (mixI (sdE seed [(t : Int)] 1)) (joinP (F0 L 1 [(t : Int)] 5) (G0 R 1 1 0 [(t : Int)] 5) 5) (mle C [(t : Int)] % 5) (drwI (sdE seed [(t : Int)] 1) 5) 5) (u := (u : Int)) (cl := mle C [(t : Int)] % 5) (pl := if mle C [(t : Int)] % 5 = mle (mulT L R 1 1 0 5) [(t : Int)] % 5 then some none else none) h
    rcases z with z | z
    · left
      split at z
      · rename_i e
        exact decide_eq_true e
      · cases z
    · exact .inr (decide_eq_true z)
theorem ev_011 (hC : C.length = 2 ∧ InP 5 C) (hne : C ≠ mulT L R 0 1 1 5) : (List.range 25).countP (fun i => evE seed L R C 0 1 1 [((i % 5 : Nat) : Int), ((i / 5 % 5 : Nat) : Int)]) ≤ 15 :=
  two_throws (α := 1) (β := 2) (A := fun t => decide (mle C [(t : Int)] % 5 = mle (mulT L R 0 1 1 5) [(t : Int)] % 5)) (B := fun t => rndE (F0 L 0 [(t : Int)] 5) (G0 R 0 1 1 [(t : Int)] 5) (mixI (sdE seed [(t : Int)] 1)) (mle C [(t : Int)] % 5) (drwI (sdE seed [(t : Int)] 1) 5))
    (few_cl hC ⟨mulT_len, mulT_in (by decide)⟩ hne) (fun t _ => rndE_few) fun i hi h => by
    rw [Nat.mod_eq_of_lt (show i / 5 < 5 by omega)] at h
    generalize i % 5 = t at h ⊢
    generalize i / 5 = u at h ⊢
    have z := tlk1 (f := F0 L 0 [(t : Int)] 5) (g := G0 R 0 1 1 [(t : Int)] 5) (B := blfI (mixI (sdE seed [(t : Int)] 1)) (joinP (F0 L 0 [(t : Int)] 5) (G0 R 0 1 1 [(t : Int)] 5) 5) (mle C [(t : Int)] % 5) (drwI (sdE seed [(t : Int)] 1) 5) 5) (u := (u : Int)) (cl := mle C [(t : Int)] % 5) (pl := if mle C [(t : Int)] % 5 = mle (mulT L R 0 1 1 5) [(t : Int)] % 5 then some none else none) h
    rcases z with z | z
    · left
      split at z
      · rename_i e
        exact decide_eq_true e
      · cases z
    · exact .inr (decide_eq_true z)
theorem ev_020 (hC : C.length = 1 ∧ InP 5 C) (hne : C ≠ mulT L R 0 2 0 5) : (List.range 25).countP (fun i => evE seed L R C 0 2 0 [((i % 5 : Nat) : Int), ((i / 5 % 5 : Nat) : Int)]) ≤ 20 := by
  obtain ⟨F, hF⟩ : ∃ F, F = F0 L 0 [] 5 := ⟨_, rfl⟩
  obtain ⟨G, hG⟩ : ∃ G, G = G0 R 0 2 0 [] 5 := ⟨_, rfl⟩
  obtain ⟨B, hB⟩ : ∃ B, B = blfI (mixI (sdE seed [] 0)) (joinP F G 5) (mle C [] % 5) (drwI (sdE seed [] 0) 5) 5 := ⟨_, rfl⟩
  refine two_throws (α := 2) (β := 2) (A := rndE F G (mixI (sdE seed [] 0)) (mle C [] % 5) (drwI (sdE seed [] 0) 5)) (B := fun t => rndE (foldS 5 F (t : Int)) (foldS 5 G (t : Int)) (mixI (sdE seed [(t : Int)] 1)) (atV B (t : Int) 5) (drwI (sdE seed [(t : Int)] 1) 5))
    rndE_few (fun t _ => rndE_few) fun i hi h => ?_
  rw [Nat.mod_eq_of_lt (show i / 5 < 5 by omega)] at h
  generalize i % 5 = t at h ⊢
  generalize i / 5 = u at h ⊢
  have Tl : (mulT L R 0 2 0 5).length = 1 := mulT_len
  have n0 : mle C [] % 5 ≠ mle (mulT L R 0 2 0 5) [] % 5 := fun z => by
    have c := gi_in hC.2 (z := 0) (by decide) (by omega)
    have d := gi_in (mulT_in (L := L) (R := R) (a := 0) (b := 2) (c := 0) (p := 5) (by decide)) (z := 0) (by decide) (by omega)
    rw [mle_nil, mle_nil, Int.emod_eq_of_lt c.1 c.2, Int.emod_eq_of_lt d.1 d.2] at z
    refine hne ?_
    match C, hC.1, mulT L R 0 2 0 5, Tl, z with
    | [x], _, [y], _, z => rw [show x = y from z]
  have z := tlk2 (f := F) (g := G) (B := B) (D' := blfI (mixI (sdE seed [(t : Int)] 1)) (joinP (foldS 5 F (t : Int)) (foldS 5 G (t : Int)) 5) (atV B (t : Int) 5) (drwI (sdE seed [(t : Int)] 1) 5) 5) (t := (t : Int)) (u := (u : Int)) (cl := mle C [] % 5) (pl := if mle C [] % 5 = mle (mulT L R 0 2 0 5) [] % 5 then some none else none) (by rw [hB, hF, hG]; exact h)
  rw [if_neg n0] at z
  rcases z with z | z | z
  · cases z
  · rw [hB] at z
    exact .inl (decide_eq_true z)
  · exact .inr (decide_eq_true z)
end
theorem okE_pl : ∀ pl : Option (Option Nat), okE 64 (plD pl) = true
  | none => rfl
  | some none => okE_tup fun d hd => by
    rw [List.mem_singleton.mp hd]
    exact okE_sD (by decide +kernel)
  | some (some k) => okE_tup fun d hd => by
    rcases List.mem_cons.mp hd with rfl | hd
    · exact okE_sD (by decide +kernel)
    · rw [List.mem_singleton.mp hd]
      rfl
theorem rd__law_small : ∀ ds m Φ Ψ, ds.length = 1 → C__law_small ds m Φ Ψ → W__law_small { nx := fun _ m' => Φ .non m', rt := Φ } (fun _ => Ψ) (ds.map some ++ List.replicate (20 - ds.length) none) m := by
  intro ds m Φ Ψ _ h
  obtain ⟨rfl, hs, q⟩ := h
  obtain ⟨M, sm⟩ := m
  dsimp only at hs
  subst hs
  change W__law_small _ _ [some (.st 0), none, none, none, none, none, none, none, none, none, none, none, none, none, none, none, none, none, none, none] _
  unfold W__law_small
  walk_at "stp"
  walk_at "nxt"
  refine ⟨by decide, by decide, by decide, by decide, by decide, by decide, _, rfl, rfl, by decide, by decide, fun d hd => ?_⟩
  obtain ⟨a, b, c, rfl, hsz⟩ : ∃ a b c : Nat, d = szD a b c ∧ ((a = 1 ∧ b = 0 ∧ c = 0) ∨ (a = 0 ∧ b = 1 ∧ c = 0) ∨ (a = 1 ∧ b = 1 ∧ c = 0) ∨ (a = 0 ∧ b = 1 ∧ c = 1) ∨ (a = 0 ∧ b = 2 ∧ c = 0)) := by
    simp only [List.mem_cons, List.not_mem_nil, or_false] at hd
    rcases hd with rfl | rfl | rfl | rfl | rfl
    · exact ⟨1, 0, 0, rfl, by omega⟩
    · exact ⟨0, 1, 0, rfl, by omega⟩
    · exact ⟨1, 1, 0, rfl, by omega⟩
    · exact ⟨0, 1, 1, rfl, by omega⟩
    · exact ⟨0, 2, 0, rfl, by omega⟩
  clear hd
  have hp := sm5
  have pm := hp.pm
  unfold szD
  walk_at "nxt"
  walk_at "nxt"
  refine ⟨a + b, 5, by rw [show ((a : Nat) : Int) + (b : Nat) = ((a + b : Nat) : Int) by omega], rfl, pm, by omega, fun L lL iL => ?_⟩
  walk_at "nxt"
  refine ⟨b + c, 5, by rw [show ((b : Nat) : Int) + (c : Nat) = ((b + c : Nat) : Int) by omega], rfl, pm, by omega, fun R lR iR => ?_⟩
  walk_at "nxt"
  refine ⟨L, R, a, b, c, 5, rfl, pm, iL, iR, lL, lR, by omega, by omega, by omega, ?_⟩
  obtain ⟨T, hT⟩ : ∃ T, T = mulT L R a b c 5 := ⟨_, rfl⟩
  have Tl : T.length = 2 ^ (a + c) := by rw [hT, mulT_len, Nat.pow_add, Nat.mul_comm]
  have Tin : InP 5 T := by rw [hT]; exact mulT_in (by omega)
  rw [← hT]
  have T1 : 1 ≤ T.length := by rw [Tl]; exact Nat.one_le_two_pow
  have T2 : T.length ≤ 2 := by rw [Tl]; exact Nat.le_trans (Nat.pow_le_pow_right (by decide) (show a + c ≤ 1 by omega)) (by decide)
  show k1 _ ⟨M ++ [.lst (T.map D.int)], 1⟩
  walk_at "nxt"
  refine ⟨_, rfl, rfl, by omega, by omega, fun j j0 j1 => ?_⟩
  obtain ⟨j, rfl⟩ := Int.eq_ofNat_of_zero_le j0
  walk_at "nxt"
  refine ⟨_, atI_gi (by omega) (by omega), ?_⟩
  walk_at "dx"
  refine ⟨4, rfl, rfl, by decide, by decide, fun x x0 x1 => ?_⟩
  walk_at "dx"
  obtain ⟨C, hC⟩ : ∃ C, C = T.set j ((Dl.gi T (j : Nat) + 1 + x) % 5) := ⟨_, rfl⟩
  have Cl : C.length = 2 ^ (a + c) := by rw [hC, List.length_set]; exact Tl
  have Ci : InP 5 C := fun y hy => by
    rw [hC] at hy
    rcases List.mem_or_eq_of_mem_set hy with z | z
    · exact Tin y z
    · rw [z]
      exact mod_in (by decide)
  have jl : j < T.length := by omega
  have Cne : C ≠ mulT L R a b c 5 := by
    rw [← hT, hC]
    intro z
    have e : (T.set j ((Dl.gi T (j : Nat) + 1 + x) % 5))[j]? = T[j]? := by rw [z]
    rw [List.getElem?_set_self jl] at e
    have g : T[j]? = some (Dl.gi T (j : Nat)) := by
      rw [gi_nat, List.getD_eq_getElem?_getD, List.getElem?_eq_getElem jl]
      rfl
    rw [g] at e
    have e : (Dl.gi T (j : Nat) + 1 + x) % 5 = Dl.gi T (j : Nat) := by injection e
    have b := gi_in Tin (z := (j : Nat)) (by omega) (by omega)
    omega
  refine ⟨by decide, j, ixN_of (by omega) (by omega), ?_⟩
  rw [show (T.map D.int).set j (.int ((Dl.gi T (j : Nat) + 1 + x) % 5)) = C.map D.int by rw [hC, List.map_set]]
  walk_at "nxt"
  refine ⟨_, rfl, rfl, by decide, by decide, fun sd sd0 sd1 => ?_⟩
  dsimp only
  obtain ⟨seed, hseed⟩ : ∃ seed, seed = 1 + sd := ⟨_, rfl⟩
  rw [← hseed]
  walk_at "nxt"
  rw [show ((a : Nat) : Int) + (b : Nat) + (c : Nat) = ((a + b + c : Nat) : Int) by omega]
  walk_at "nxt"
  subst h1
  refine dSeq_k fun k1 h1 => ?_
  have gM : ∀ X, (M ++ [X])[M.length]? = some X := fun X => by
    rw [List.getElem?_append_right (Nat.le_refl _), Nat.sub_self]
    rfl
  have sM : ∀ X Y, (M ++ [X]).set M.length Y = M ++ [Y] := fun X Y => by
    rw [List.set_append_right _ _ (Nat.le_refl _), Nat.sub_self]
    rfl
  unfold dFrz
  dsimp only [List.getElem?_cons_succ, List.getElem?_cons_zero]
  simp only [gM, sM, moL_lst]
  dsimp only [List.set_cons_succ, List.set_cons_zero]
  walk_at "dx"
  obtain ⟨n, hn⟩ : ∃ n, n = a + b + c := ⟨_, rfl⟩
  rw [← hn]
  obtain ⟨N, hN⟩ : ∃ N : Nat, (n = 1 ∧ N = 5) ∨ (n = 2 ∧ N = 25) := by
    have : n = 1 ∨ n = 2 := by omega
    rcases this with h | h
    · exact ⟨5, .inl ⟨h, rfl⟩⟩
    · exact ⟨25, .inr ⟨h, rfl⟩⟩
  have atN : atI [D.int 1, D.int 5, D.int 25] ((n : Nat) : Int) = some (.int (N : Nat)) := by
    rcases hN with ⟨h, h'⟩ | ⟨h, h'⟩ <;> rw [h, h'] <;> rfl
  have n2 : n ≤ 2 := by omega
  have N25 : N ≤ 25 := by omega
  refine ⟨by decide, _, atN, ?_⟩
  dsimp only
  refine ⟨⟨by omega, by omega⟩, ?_⟩
  rw [Int.toNat_natCast, rngD0]
  obtain ⟨E, hE⟩ : ∃ E : Nat → Bool, E = fun i => evE seed L R C a b c ((List.range n).map fun k : Nat => ((i / 5 ^ k % 5 : Nat) : Int)) := ⟨_, rfl⟩
  have e1 : ∀ i : Nat, ((List.range 1).map fun k : Nat => ((i / 5 ^ k % 5 : Nat) : Int)) = [((i % 5 : Nat) : Int)] := fun i => by
    show [((i / 1 % 5 : Nat) : Int)] = _
    rw [Nat.div_one]
  have e2 : ∀ i : Nat, ((List.range 2).map fun k : Nat => ((i / 5 ^ k % 5 : Nat) : Int)) = [((i % 5 : Nat) : Int), ((i / 5 % 5 : Nat) : Int)] := fun i => by
    show [((i / 1 % 5 : Nat) : Int), ((i / 5 % 5 : Nat) : Int)] = _
    rw [Nat.div_one]
  have last : 5 * (List.range N).countP E ≤ N * (a + c + 2 * b) := by
    rw [hE]
    rcases hsz with ⟨rfl, rfl, rfl⟩ | ⟨rfl, rfl, rfl⟩ | ⟨rfl, rfl, rfl⟩ | ⟨rfl, rfl, rfl⟩ | ⟨rfl, rfl, rfl⟩
    · have : n = 1 := by omega
      subst this
      have : N = 5 := by omega
      subst this
      simp only [e1]
      have := ev_100 (seed := seed) (L := L) (R := R) ⟨Cl, Ci⟩ Cne
      omega
    · have : n = 1 := by omega
      subst this
      have : N = 5 := by omega
      subst this
      simp only [e1]
      have := ev_010 (seed := seed) (L := L) (R := R) ⟨Cl, Ci⟩ Cne
      omega
    · have : n = 2 := by omega
      subst this
      have : N = 25 := by omega
      subst this
      simp only [e2]
      have := ev_110 (seed := seed) (L := L) (R := R) ⟨Cl, Ci⟩ Cne
      omega
    · have : n = 2 := by omega
      subst this
      have : N = 25 := by omega
      subst this
      simp only [e2]
      have := ev_011 (seed := seed) (L := L) (R := R) ⟨Cl, Ci⟩ Cne
      omega
    · have : n = 2 := by omega
      subst this
      have : N = 25 := by omega
      subst this
      simp only [e2]
      have := ev_020 (seed := seed) (L := L) (R := R) ⟨Cl, Ci⟩ Cne
      omega
  refine forW_nat (fun i ρ m' => ∃ (cnt : Nat) (v13 v14 v15 v16 v17 v18 v19 : Option D), cnt ≤ (List.range i).countP E ∧ ρ = [some (.st 0), some (.int 5), some (.tup [.int (a : Nat), .int (b : Nat), .int (c : Nat)]), some (.int (a : Nat)), some (.int (b : Nat)), some (.int (c : Nat)), some (.lst (L.map D.int)), some (.lst (R.map D.int)), some (.lst (C.map D.int)), some (.int (j : Nat)), some (.int seed), some (.int (n : Nat)), some (.int (cnt : Nat)), v13, v14, v15, v16, v17, v18, v19] ∧ m' = ⟨M ++ [.dead], 1⟩) ?_ ?_ ⟨0, _, _, _, _, _, _, _, Nat.zero_le _, rfl, rfl⟩
  · rintro i kk hi hkk ρ m' ⟨cnt, v13, v14, v15, v16, v17, v18, v19, hcnt, rfl, rfl⟩
    clear h1
    walk_at "stp"
    refine ⟨⟨by omega, by omega⟩, ?_⟩
    rw [Int.toNat_natCast, rngD0]
    refine lcW_fn (inj := fun i : Nat => D.int (i : Nat)) (out := D.int) (fun k : Nat => ((i / 5 ^ k % 5 : Nat) : Int)) _ (List.range n) ?_ (fun _ => rfl) (by rw [List.length_range]; show _ ≤ 16777216; omega) ?_
    · intro k hk m2 Θ hΘ
      have hk := List.mem_range.mp hk
      walk_at "dx"
      have a5 : atI [D.int 1, D.int 5] ((k : Nat) : Int) = some (.int ((5 ^ k : Nat) : Int)) := by
        have : k = 0 ∨ k = 1 := by omega
        rcases this with rfl | rfl <;> rfl
      refine ⟨by decide, _, a5, ?_⟩
      have k5 : 1 ≤ 5 ^ k ∧ 5 ^ k ≤ 5 := by
        have : k = 0 ∨ k = 1 := by omega
        rcases this with rfl | rfl <;> decide
      refine ⟨⟨by omega, by omega⟩, by decide, ?_⟩
      rw [show ((i : Nat) : Int) / ((5 ^ k : Nat) : Int) % 5 = ((i / 5 ^ k % 5 : Nat) : Int) by rw [Int.natCast_emod, Int.natCast_ediv]; rfl]
      exact hΘ
    obtain ⟨ths, hths⟩ : ∃ ths, ths = (List.range n).map fun k : Nat => ((i / 5 ^ k % 5 : Nat) : Int) := ⟨_, rfl⟩
    rw [← hths]
    have tl : ths.length = a + b + c := by rw [hths, List.length_map, List.length_range, hn]
    have ti : InP 5 ths := fun x hx => by
      rw [hths] at hx
      obtain ⟨k, _, rfl⟩ := List.mem_map.mp hx
      omega
    have H : TkP L R C a b c ths 5 := ⟨hp, iL, iR, Ci, lL, lR, Cl, ti, tl, by omega, by omega, by omega⟩
    walk_at "nxt"
    refine ⟨L, R, C, a, b, c, ths, 5, seed, rfl, rfl, H, by omega, by omega, fun P S => ?_⟩
    have eP : P = stE seed L R C a b c ths 5 := snt_stE (by omega) S
    obtain ⟨v, hv⟩ : ∃ v, v = tkV L R C a b c ths 5 P := ⟨_, rfl⟩
    obtain ⟨mn, hmn⟩ : ∃ mn, mn = mnV L R a b c ths 5 := ⟨_, rfl⟩
    obtain ⟨pl, hpl⟩ : ∃ pl, pl = (tkE L R C a b c ths 5 P).2 := ⟨_, rfl⟩
    obtain ⟨F1, F2, F3, F3i, F4, F5, F6⟩ := tk_facts (seed := seed) H S
    have eE : E i = pl.isSome := by
      rw [hE, hpl, eP]
      show evE seed L R C a b c ((List.range n).map fun k : Nat => ((i / 5 ^ k % 5 : Nat) : Int)) = _
      rw [← hths]
      rfl
    unfold tkD
    rw [← hv] at F3 F3i F4 F5 F6 ⊢
    rw [← hmn] at F4 F5 F6 ⊢
    rw [← hpl] at F5 F6 ⊢
    obtain ⟨E1, E2, E3⟩ := dueV_facts (v := v) (mn := mn)
    obtain ⟨pc, hpc⟩ : ∃ pc : D, pc = if C ≠ mulT L R a b c 5 ∧ v = mn then plD pl else .non := ⟨_, rfl⟩
    rw [← hpc] at F5 ⊢
    have okpc : okE 64 pc = true := by
      rw [hpc]
      split
      · exact okE_pl pl
      · rfl
    refine ⟨rfl, ?_⟩
    subst h1
    refine dSeq_k fun k1 h1 => ?_
    walk_at "dx"
    refine judge_ok H F1 F2 (by omega) ?_
    rw [F4]
    subst h1
    refine dSeq_k fun k1 h1 => ?_
    walk_at "dx"
    refine ⟨E2, E2, ?_⟩
    rw [eqD_self E2, if_neg (by decide)]
    refine ⟨L, R, C, a, b, c, ths, 5, P, v, mn, rfl, H, F1, F2, by omega, F4, ?_⟩
    rw [F5]
    refine ⟨okpc, okpc, ?_⟩
    rw [eqD_self okpc, if_neg (by decide)]
    subst h1
    walk_at "dx"
    refine ⟨by decide, E2, okE_tup (fun d hd => by
      rw [List.mem_singleton.mp hd]
      exact okE_sD (by decide +kernel)), ?_⟩
    rw [show eqD (dueV v mn) (.tup [.str (PySem.Str.ofString "believed")]) = decide (v = mn) from E3]
    have cn : (List.range (i + 1)).countP E = (List.range i).countP E + (if E i = true then 1 else 0) := by
      rw [List.range_succ, List.countP_append, List.countP_cons, List.countP_nil, Nat.zero_add]
    by_cases eV : v = mn
    · rw [if_pos (decide_eq_true eV)]
      have np := F6 Cne eV
      have es : E i = true := by
        rw [eE]
        cases pl with
        | none => exact absurd rfl np
        | some x => rfl
      rw [if_pos es] at cn
      exact hkk _ _ ⟨cnt + 1, _, _, _, _, _, _, _, by omega, rfl, rfl⟩
    · rw [if_neg (fun z => eV (of_decide_eq_true z)), Int.add_zero]
      exact hkk _ _ ⟨cnt, _, _, _, _, _, _, _, by rw [cn]; omega, rfl, rfl⟩
  · rintro ρ m' ⟨cnt, v13, v14, v15, v16, v17, v18, v19, hcnt, rfl, rfl⟩
    subst h1
    have c25 : (List.range N).countP E ≤ N := by
      have := List.countP_le_length (p := E) (l := List.range N)
      rw [List.length_range] at this
      exact this
    walk_at "dx"
    refine ⟨mulL (by decide) (by omega), by decide, _, atN, a, b, c, rfl, by omega, ?_⟩
    walk_at "dx"
    refine ⟨mulL (Int.natCast_nonneg _) (by omega), ?_⟩
    have l2 := Int.ofNat_le.mpr (Nat.le_trans (Nat.mul_le_mul_left 5 hcnt) last)
    rw [Int.natCast_mul, Int.natCast_mul] at l2
    rw [decide_eq_true (show (5 : Int) * (cnt : Nat) ≤ (N : Nat) * ((a + c + 2 * b : Nat) : Int) from l2)]
    exact q _
theorem rd_law : ∀ ds m Φ Ψ, ds.length = 1 → CLaw ClawT ds m Φ Ψ → W_law { nx := fun _ m' => Φ .non m', rt := Φ } (fun _ => Ψ) (ds.map some ++ List.replicate (17 - ds.length) none) m := by
  intro ds m Φ Ψ _ h
  obtain ⟨ns, rfl, hlen, rfl, q⟩ := h
  change W_law _ _ [some (.rol (ns.map D.int)), none, none, none, none, none, none, none, none, none, none, none, none, none, none, none, none] _
  unfold W_law
  walk_at "stp"
  refine ⟨⟨ns, rfl, by omega⟩, rfl, ?_⟩
  walk_at "nxt"
  refine ⟨by show 5 ≤ 16777216; decide, _, rfl, rfl, Nat.succ_pos _, by show 5 ≤ 1000; decide, fun d hd => ?_⟩
  obtain ⟨p, rfl, hp⟩ : ∃ p : Int, d = .int p ∧ SmP p := by
    have : d = .int 3 ∨ d = .int 5 ∨ d = .int 7 ∨ d = .int 11 ∨ d = .int 13 := by simpa using hd
    rcases this with rfl | rfl | rfl | rfl | rfl <;> exact ⟨_, rfl, by unfold SmP; omega⟩
  clear hd
  have hb := hp.b
  have pm := hp.pm
  walk_at "nxt"
  refine ⟨3, rfl, rfl, by decide, by decide, fun a a0 a3 => ?_⟩
  refine ⟨3, rfl, rfl, by decide, by decide, fun b b0 b3 => ?_⟩
  refine ⟨3, rfl, rfl, by decide, by decide, fun c c0 c3 => ?_⟩
  obtain ⟨a, rfl⟩ := Int.eq_ofNat_of_zero_le a0
  obtain ⟨b, rfl⟩ := Int.eq_ofNat_of_zero_le b0
  obtain ⟨c, rfl⟩ := Int.eq_ofNat_of_zero_le c0
  have a2 : a ≤ 2 := by omega
  have b2 : b ≤ 2 := by omega
  have c2 : c ≤ 2 := by omega
  clear a0 b0 c0 a3 b3 c3
  refine ⟨by decide, ?_⟩
  walk_at "nxt"
  walk_at "nxt"
  refine ⟨a + b, p, by rw [show ((a : Nat) : Int) + (b : Nat) = ((a + b : Nat) : Int) by omega], rfl, pm, by omega, fun L lL iL => ?_⟩
  walk_at "nxt"
  refine ⟨b + c, p, by rw [show ((b : Nat) : Int) + (c : Nat) = ((b + c : Nat) : Int) by omega], rfl, pm, by omega, fun R lR iR => ?_⟩
  have e16 : ∀ n, n ≤ 4 → 2 ^ n ≤ 16 := fun n h => Nat.le_trans (Nat.pow_le_pow_right (by decide) h) (by decide)
  have lL16 : L.length ≤ 16 := by rw [lL]; exact e16 _ (by omega)
  have lR16 : R.length ≤ 16 := by rw [lR]; exact e16 _ (by omega)
  walk_at "nxt"
  refine ⟨L, R, a, b, c, p, rfl, pm, iL, iR, lL, lR, by omega, by omega, by omega, ?_⟩
  obtain ⟨T, hT⟩ : ∃ T, T = mulT L R a b c p := ⟨_, rfl⟩
  have Tl : T.length = 2 ^ (a + c) := by rw [hT, mulT_len, Nat.pow_add, Nat.mul_comm]
  have Tin : InP p T := by rw [hT]; exact mulT_in (by omega)
  rw [← hT]
  show k1 _ ⟨[] ++ [.lst (T.map D.int)], 1⟩
  rw [List.nil_append]
  subst h1
  refine dSeq_k fun k1 h1 => ?_
  have T1 : 1 ≤ 2 ^ (a + c) := Nat.one_le_two_pow
  have T16 : 2 ^ (a + c) ≤ 16 := e16 _ (by omega)
  have aft : ∀ (C : List Int) (v11 : Option D), C.length = 2 ^ (a + c) → InP p C → k1 [some (.rol (ns.map D.int)), some (.st 0), some (.int p), some (.tup [.int (a : Nat), .int (b : Nat), .int (c : Nat)]), some (.int (a : Nat)), some (.int (b : Nat)), some (.int (c : Nat)), some (.lst (L.map D.int)), some (.lst (R.map D.int)), some (.hnd 0), none, v11, none, none, none, none, none] ⟨[.lst (C.map D.int)], 1⟩ := by
    intro C v11 Cl Ci
    subst h1
    refine dSeq_k fun k1 h1 => ?_
    unfold dFrz
    dsimp only [List.getElem?_cons_succ, List.getElem?_cons_zero, moL_lst, List.set_cons_succ, List.set_cons_zero]
    walk_at "dx"
    refine ⟨⟨by decide, by decide⟩, ?_⟩
    rw [show (4 : Int).toNat = 4 from rfl]
    refine forW_rng (lo := 0) (n := 4) (fun _ ρ m' => ∃ (v10 v11 v12 v13 v14 v15 v16 : Option D), ρ = [some (.rol (ns.map D.int)), some (.st 0), some (.int p), some (.tup [.int (a : Nat), .int (b : Nat), .int (c : Nat)]), some (.int (a : Nat)), some (.int (b : Nat)), some (.int (c : Nat)), some (.lst (L.map D.int)), some (.lst (R.map D.int)), some (.lst (C.map D.int)), v10, v11, v12, v13, v14, v15, v16] ∧ m' = ⟨[.dead], 1⟩) ?_ ?_ ⟨_, _, _, _, _, _, _, rfl, rfl⟩
    · rintro i kk _ hkk ρ m' ⟨v10, v11, v12, v13, v14, v15, v16, rfl, rfl⟩
      rw [Int.zero_add]
      clear h1
      walk_at "stp"
      rw [show ((a : Nat) : Int) + (b : Nat) + (c : Nat) = ((a + b + c : Nat) : Int) by omega]
      refine ⟨⟨by omega, by omega⟩, ?_⟩
      rw [Int.toNat_natCast, rngD0]
      refine lcW_any (out := D.int) (fun _ (z : Int) => 0 ≤ z ∧ z < p) _ (fun x m' Θ em h => ?_) (fun _ => rfl) _ [] (by rw [List.length_nil, List.length_range]; show _ ≤ 16777216; omega) (fun ths hz => ?_)
      · refine ⟨rfl, ?_⟩
        walk_at "dx"
        exact ⟨p, rfl, by rw [em], by omega, by omega, fun r r0 r1 => h r ⟨r0, r1⟩⟩
      have tl : ths.length = a + b + c := by rw [← hz.length, List.length_range]
      have ti : InP p ths := fun x hx => all2_mem hz x hx
      clear hz
      rw [List.nil_append]
      have H : TkP L R C a b c ths p := ⟨hp, iL, iR, Ci, lL, lR, Cl, ti, tl, a2, b2, c2⟩
      walk_at "nxt"
      refine ⟨L, R, C, a, b, c, ths, p, 0, rfl, rfl, H, Int.le_refl 0, by decide, fun P S => ?_⟩
      have TF := tk_facts (seed := 0) H S
      obtain ⟨v, hv⟩ : ∃ v, v = tkV L R C a b c ths p P := ⟨_, rfl⟩
      obtain ⟨mn, hmn⟩ : ∃ mn, mn = mnV L R a b c ths p := ⟨_, rfl⟩
      obtain ⟨pl, hpl⟩ : ∃ pl, pl = (tkE L R C a b c ths p P).2 := ⟨_, rfl⟩
      obtain ⟨F1, F2, F3, F3i, F4, F5, F6⟩ := TF
      unfold tkD
      rw [← hv] at F3 F3i F4 F5 F6 ⊢
      rw [← hmn] at F4 F5 F6 ⊢
      rw [← hpl] at F5 F6 ⊢
      rw [← hT] at F5 F6 ⊢
      obtain ⟨E1, E2, E3⟩ := dueV_facts (v := v) (mn := mn)
      obtain ⟨pc, hpc⟩ : ∃ pc : D, pc = if C ≠ T ∧ v = mn then plD pl else .non := ⟨_, rfl⟩
      rw [← hpc] at F5 ⊢
      obtain ⟨pd, hpd⟩ : ∃ pd, pd = pairD P v := ⟨_, rfl⟩
      rw [← hpd]
      refine ⟨rfl, ?_⟩
      subst h1
      refine dSeq_k fun k1 h1 => ?_
      obtain ⟨KD, hKD⟩ : ∃ KD, KD = D.lst [.lst (L.map D.int), .lst (R.map D.int), .lst (C.map D.int), .lst (ths.map D.int), pd] := ⟨_, rfl⟩
      walk_at "dx"
      rw [← hKD]
      have lC16 : C.length ≤ 16 := by rw [Cl]; exact T16
      have okI : ∀ xs : List Int, InP p xs → xs.length ≤ 16 → OkR 4 700 (.lst (xs.map D.int)) := fun xs hx hl => .lstMap (n := 3) (k := 41) (fun v hv => OkR.int (by have := hx v hv; omega) (by have := hx v hv; omega) (by decide)) (by omega)
      have okP : OkR 6 4000 pd := by
        rw [hpd]
        refine OkR.tup (n := 5) (k := 1500) (fun d hd => ?_) (by simp)
        rcases List.mem_cons.mp hd with rfl | hd
        · refine OkR.lstMap (f := intL) (n := 4) (k := 700) (fun B hB => ?_) (by omega)
          have := F2 B hB
          exact okI B this.2 (by omega)
        · rw [List.mem_singleton.mp hd]
          exact OkR.lstMap (n := 4) (k := 41) (fun z hz => OkR.int (by have := F3i z hz; omega) (by have := F3i z hz; omega) (by decide)) (by omega)
      have okB : OkR 7 30000 KD := by
        rw [hKD]
        have lift : ∀ xs : List Int, InP p xs → xs.length ≤ 16 → OkR 6 4000 (.lst (xs.map D.int)) := fun xs hx hl => .lstMap (n := 5) (k := 41) (fun v hv => OkR.int (by have := hx v hv; omega) (by have := hx v hv; omega) (by decide)) (by omega)
        refine OkR.lst (n := 6) (k := 4000) (fun x hx => ?_) (by simp)
        simp only [List.mem_cons, List.not_mem_nil, or_false] at hx
        rcases hx with rfl | rfl | rfl | rfl | rfl
        · exact lift L iL lL16
        · exact lift R iR lR16
        · exact lift C Ci lC16
        · exact lift ths ti (by omega)
        · exact okP
      have okB : OkR 60 1048576 KD := ⟨okE_mono _ okB.lay (by decide), okB.shw, okB.lvs, Nat.le_trans okB.wgt (by decide)⟩
      have rc : ∀ m, cRepr2 [KD] m = fun Φ => OkR 60 1048576 KD ∧ isSeq KD = true ∧ Φ (.str (shownD KD)) m := fun m => by rw [hKD]; rfl
      have sq : isSeq KD = true := by rw [hKD]; rfl
      rw [rc]
      refine ⟨by decide, okB, sq, ?_⟩
      have okpc : okE 64 pc = true := by
        rw [hpc]
        split
        · exact okE_pl pl
        · rfl
      subst h1
      refine dSeq_k fun k1 h1 => ?_
      walk_at "dx"
      rw [hpd]
      refine judge_ok H F1 F2 (by omega) ?_
      rw [F4]
      refine ⟨E2, E2, ?_⟩
      rw [eqD_self E2, if_neg (by decide)]
      subst h1
      refine dSeq_k fun k1 h1 => ?_
      walk_at "dx"
      refine ⟨L, R, C, a, b, c, ths, p, P, v, mn, rfl, H, F1, F2, by omega, F4, ?_⟩
      rw [F5]
      refine ⟨okpc, okpc, ?_⟩
      rw [eqD_self okpc, if_neg (by decide)]
      subst h1
      refine dSeq_k fun k1 h1 => ?_
      have obel : okE 64 (.tup [sD "believed"]) = true := okE_tup fun d hd => by
        rw [List.mem_singleton.mp hd]
        exact okE_sD (by decide +kernel)
      have aft2 : k1 [some (.rol (ns.map D.int)), some (.st 0), some (.int p), some (.tup [.int (a : Nat), .int (b : Nat), .int (c : Nat)]), some (.int (a : Nat)), some (.int (b : Nat)), some (.int (c : Nat)), some (.lst (L.map D.int)), some (.lst (R.map D.int)), some (.lst (C.map D.int)), some (.int (i : Nat)), v11, some (.lst (ths.map D.int)), some (pairD P v), some (dueV v mn), some pc, some (.str (shownD KD))] ⟨[.dead], 1⟩ := by
        subst h1
        walk_at "dx"
        rw [← hpd, ← hKD, rc]
        refine ⟨by decide, okB, sq, ?_⟩
        unfold oNeS
        walk_at "dx"
        exact hkk _ _ ⟨_, _, _, _, _, _, _, rfl, rfl⟩
      walk_at "dx"
      refine ⟨by decide, E2, obel, ?_⟩
      rw [show eqD (dueV v mn) (.tup [.str (PySem.Str.ofString "believed")]) = decide (v = mn) from E3]
      by_cases eV : v = mn
      rotate_left
      · rw [if_neg (fun z => eV (of_decide_eq_true z))]
        exact aft2
      rw [if_pos (decide_eq_true eV)]
      refine ⟨L, R, a, b, c, p, rfl, pm, iL, iR, lL, lR, by omega, by omega, by omega, okE_ints, okE_ints, ?_⟩
      rw [← hT, eqD_ints]
      by_cases eC : C = T
      · rw [if_neg (by simp [eC])]
        exact aft2
      rw [if_pos (decide_eq_false eC)]
      have np := F6 eC eV
      rw [if_pos ⟨eC, eV⟩] at hpc
      rw [hpc] at aft2 ⊢
      cases pl with
      | none => exact absurd rfl np
      | some x =>
        cases x with
        | none => exact aft2
        | some k => exact aft2
    · rintro ρ m' ⟨v10, v11, v12, v13, v14, v15, v16, rfl, rfl⟩
      subst h1
      walk_at "dx"
      exact ⟨rfl, rfl, fun Z => q _⟩
  walk_at "dx"
  refine ⟨4, rfl, rfl, by decide, by decide, fun x x0 x1 => ?_⟩
  walk_at "dx"
  by_cases e : 0 < x
  rotate_left
  · rw [if_neg e]
    exact aft T none Tl Tin
  rw [if_pos e]
  refine ⟨3, rfl, rfl, by decide, by decide, fun y y0 y1 => ?_⟩
  dsimp only
  refine ⟨⟨by omega, by omega⟩, ?_⟩
  obtain ⟨n, hn⟩ : ∃ n : Nat, (1 + y).toNat = n := ⟨_, rfl⟩
  rw [hn]
  refine forW_rng (lo := 0) (fun _ ρ m' => ∃ (C : List Int) (v11 : Option D), C.length = 2 ^ (a + c) ∧ InP p C ∧ ρ = [some (.rol (ns.map D.int)), some (.st 0), some (.int p), some (.tup [.int (a : Nat), .int (b : Nat), .int (c : Nat)]), some (.int (a : Nat)), some (.int (b : Nat)), some (.int (c : Nat)), some (.lst (L.map D.int)), some (.lst (R.map D.int)), some (.hnd 0), none, v11, none, none, none, none, none] ∧ m' = ⟨[.lst (C.map D.int)], 1⟩) ?_ ?_ ⟨T, none, Tl, Tin, rfl, rfl⟩
  · rintro i kk _ hkk ρ m' ⟨C, v11, Cl, Ci, rfl, rfl⟩
    walk_at "dx"
    refine ⟨p, rfl, rfl, by omega, by omega, fun v v0 v1 => ?_⟩
    walk_at "dx"
    refine ⟨_, rfl, rfl, by omega, by omega, fun j j0 j1 => ?_⟩
    obtain ⟨j, rfl⟩ := Int.eq_ofNat_of_zero_le j0
    walk_at "dx"
    refine ⟨j, ixN_of (by omega) (by omega), hkk _ _ ⟨C.set j v, _, by rw [List.length_set]; exact Cl, fun x hx => ?_, rfl, by rw [List.map_set]⟩⟩
    rcases List.mem_or_eq_of_mem_set hx with z | z
    · exact Ci x z
    · rw [z]
      exact ⟨v0, v1⟩
  · rintro ρ m' ⟨C, v11, Cl, Ci, rfl, rfl⟩
    exact aft C v11 Cl Ci

theorem f_claim_fl {K : PySem.W.Frag} {mg : Str → Option Value} (T : Txt K mg) : FldT K (flT "claim") "claim" := by
  rw [show flT "claim" = ["SumAsker"] from by rfl]
  exact T.f_claim
theorem f_claims_fl {K : PySem.W.Frag} {mg : Str → Option Value} (T : Txt K mg) : FldT K (flT "claims") "claims" := by
  rw [show flT "claims" = ["ProductTurn"] from by rfl]
  exact T.f_claims
theorem f_column_point_fl {K : PySem.W.Frag} {mg : Str → Option Value} (T : Txt K mg) : FldT K (flT "column_point") "column_point" := by
  rw [show flT "column_point" = ["ProductTurn"] from by rfl]
  exact T.f_column_point
theorem f_degrees_fl {K : PySem.W.Frag} {mg : Str → Option Value} (T : Txt K mg) : FldT K (flT "degrees") "degrees" := by
  rw [show flT "degrees" = ["SumAsker"] from by rfl]
  exact T.f_degrees
theorem f_first_fl {K : PySem.W.Frag} {mg : Str → Option Value} (T : Txt K mg) : FldT K (flT "first") "first" := by
  rw [show flT "first" = ["ProductAnswerer"] from by rfl]
  exact T.f_first
theorem f_p_fl {K : PySem.W.Frag} {mg : Str → Option Value} (T : Txt K mg) : FldT K (flT "p") "p" := by
  rw [show flT "p" = ["SumAsker", "ProductTurn", "ProductAnswerer"] from by rfl]
  exact T.f_p
theorem f_points_fl {K : PySem.W.Frag} {mg : Str → Option Value} (T : Txt K mg) : FldT K (flT "points") "points" := by
  rw [show flT "points" = ["ProductTurn"] from by rfl]
  exact T.f_points
theorem f_row_point_fl {K : PySem.W.Frag} {mg : Str → Option Value} (T : Txt K mg) : FldT K (flT "row_point") "row_point" := by
  rw [show flT "row_point" = ["ProductTurn"] from by rfl]
  exact T.f_row_point
theorem f_second_fl {K : PySem.W.Frag} {mg : Str → Option Value} (T : Txt K mg) : FldT K (flT "second") "second" := by
  rw [show flT "second" = ["ProductAnswerer"] from by rfl]
  exact T.f_second
theorem f_sent_fl {K : PySem.W.Frag} {mg : Str → Option Value} (T : Txt K mg) : FldT K (flT "sent") "sent" := by
  rw [show flT "sent" = ["SumAsker"] from by rfl]
  exact T.f_sent
theorem f_sums_fl {K : PySem.W.Frag} {mg : Str → Option Value} (T : Txt K mg) : FldT K (flT "sums") "sums" := by
  rw [show flT "sums" = ["ProductTurn"] from by rfl]
  exact T.f_sums
theorem f_throws_fl {K : PySem.W.Frag} {mg : Str → Option Value} (T : Txt K mg) : FldT K (flT "throws") "throws" := by
  rw [show flT "throws" = ["SumAsker"] from by rfl]
  exact T.f_throws
theorem ok_FieldError {P : Program} {w : World} {K : PySem.W.Frag} {mg : Str → Option Value} {base : Heap} (T : Txt K mg) : ErrOk P w K mg base "FieldError" ["number"] := by
  obtain ⟨m, x, hno, fI, fd, i1, i2, F, b⟩ := T.e_FieldError
  exact ⟨m, x, by decide, fI, fd, _, i1, i2, b, err_init1 F sc_FieldError_init rfl (fun _ _ _ _ _ _ => ps_expr (pe_binit (by rfl) T.i_FieldError.mgb T.i_FieldError.ini (pa_cons (pe_var (i := 0) rfl (.inl rfl)) (pa_cons pe_str pa_nil)))) (fun _ _ _ _ _ _ => ps_ost (pe_var (i := 0) rfl (.inl rfl)) (pe_var (i := 1) rfl (.inl rfl))) x (hno "number" (by decide))⟩
theorem ok_CircuitError {P : Program} {w : World} {K : PySem.W.Frag} {mg : Str → Option Value} {base : Heap} (T : Txt K mg) : ErrOk P w K mg base "CircuitError" ["part"] := by
  obtain ⟨m, x, hno, fI, fd, i1, i2, F, b⟩ := T.e_CircuitError
  exact ⟨m, x, by decide, fI, fd, _, i1, i2, b, err_init1 F sc_CircuitError_init rfl (fun _ _ _ _ _ _ => ps_expr (pe_binit (by rfl) T.i_CircuitError.mgb T.i_CircuitError.ini (pa_cons (pe_var (i := 0) rfl (.inl rfl)) (pa_cons pe_str pa_nil)))) (fun _ _ _ _ _ _ => ps_ost (pe_var (i := 0) rfl (.inl rfl)) (pe_var (i := 1) rfl (.inl rfl))) x (hno "part" (by decide))⟩
theorem ok_TalkError {P : Program} {w : World} {K : PySem.W.Frag} {mg : Str → Option Value} {base : Heap} (T : Txt K mg) : ErrOk P w K mg base "TalkError" ["step"] := by
  obtain ⟨m, x, hno, fI, fd, i1, i2, F, b⟩ := T.e_TalkError
  exact ⟨m, x, by decide, fI, fd, _, i1, i2, b, err_init1 F sc_TalkError_init rfl (fun _ _ _ _ _ _ => ps_expr (pe_binit (by rfl) T.i_TalkError.mgb T.i_TalkError.ini (pa_cons (pe_var (i := 0) rfl (.inl rfl)) (pa_cons pe_str pa_nil)))) (fun _ _ _ _ _ _ => ps_ost (pe_var (i := 0) rfl (.inl rfl)) (pe_var (i := 1) rfl (.inl rfl))) x (hno "step" (by decide))⟩
theorem ok_SizeError {P : Program} {w : World} {K : PySem.W.Frag} {mg : Str → Option Value} {base : Heap} (T : Txt K mg) : ErrOk P w K mg base "SizeError" ["limit"] := by
  obtain ⟨m, x, hno, fI, fd, i1, i2, F, b⟩ := T.e_SizeError
  exact ⟨m, x, by decide, fI, fd, _, i1, i2, b, err_init1 F sc_SizeError_init rfl (fun _ _ _ _ _ _ => ps_expr (pe_binit (by rfl) T.i_SizeError.mgb T.i_SizeError.ini (pa_cons (pe_var (i := 0) rfl (.inl rfl)) (pa_cons pe_str pa_nil)))) (fun _ _ _ _ _ _ => ps_ost (pe_var (i := 0) rfl (.inl rfl)) (pe_var (i := 1) rfl (.inl rfl))) x (hno "limit" (by decide))⟩
theorem ok_point_table {P : Program} {w : World} {K : PySem.W.Frag} {mg : Str → Option Value} {base : Heap} (T : Txt K mg) : Ok P w K mg base "point_table" 1 ["point", "p"] C_point_table := by
  obtain ⟨f, fd, F, hm, b⟩ := T.d_point_table
  exact ⟨f, fd, hm, F.kp, b, okD (W := W_point_table) (k := 0) F sc_point_table (fun cdv A outer s H E hr => jss_cons (js_set 2 sc_point_table.nd rfl (Or.inl rfl) (je_lst (ja_cons (je_op op_mod opl_mod (je_int) (je_var 1)) (ja_nil)))) (jss_cons (js_for passD rfl (ji_list (je_var 0)) (jg_name (js := [3]) 3 (by decide) sc_point_table.nd rfl (Or.inr rfl)) (jss_cons (js_setLc (own := [("entry", 6)]) 4 rfl sc_point_table.nd rfl rfl (sw_true rfl rfl rfl (by decide +kernel)) (ji_list (je_var 2)) (blkOk_by (N := ["point", "p", "table", "number", "low", "high", "entry"]) (sc := defScope s_point_table) (by decide +kernel)) (fun _ _ _ _ _ => jg_name (js := [6]) 6 (by decide) sc_point_table.nd rfl (Or.inl rfl)) (fun _ _ _ _ _ => jts_nil) (fun _ _ _ _ _ => je_op op_mod opl_mod (je_op op_mulC opl_mul (je_op op_sub opl_sub (je_int) (je_var 3)) (je_var 6)) (je_var 1))) (jss_cons (js_setLc (own := [("entry", 6)]) 5 rfl sc_point_table.nd rfl rfl (sw_true rfl rfl rfl (by decide +kernel)) (ji_list (je_var 2)) (blkOk_by (N := ["point", "p", "table", "number", "low", "high", "entry"]) (sc := defScope s_point_table) (by decide +kernel)) (fun _ _ _ _ _ => jg_name (js := [6]) 6 (by decide) sc_point_table.nd rfl (Or.inl rfl)) (fun _ _ _ _ _ => jts_nil) (fun _ _ _ _ _ => je_op op_mod opl_mod (je_op op_mulC opl_mul (je_var 3) (je_var 6)) (je_var 1))) (jss_one (js_set 2 sc_point_table.nd rfl (Or.inl rfl) (je_op op_addAll opl_add (je_var 4) (je_var 5))))))) (jss_one (js_ret (je_var 2))))) rd_point_table⟩
theorem ok_value_at {P : Program} {w : World} {K : PySem.W.Frag} {mg : Str → Option Value} {base : Heap} (T : Txt K mg) (G_fold : Ok P w K mg base "fold" 1 ["table", "number", "p"] C_fold) : Ok P w K mg base "value_at" 2 ["table", "point", "p"] C_value_at := by
  obtain ⟨f, fd, F, hm, b⟩ := T.d_value_at
  exact ⟨f, fd, hm, F.kp, b, okD (W := W_value_at) (k := 1) F sc_value_at (fun cdv A outer s H E hr => jss_cons (js_for passD rfl (ji_list (je_var 1)) (jg_name (js := [3]) 3 (by decide) sc_value_at.nd rfl (Or.inl rfl)) (jss_one (js_set 0 sc_value_at.nd rfl (Or.inl rfl) (je_callO G_fold takesD (hr.mono (by decide)) (by rfl) (ja_cons (je_var 0) (ja_cons (je_var 3) (ja_cons (je_var 2) (ja_nil)))) 3)))) (jss_one (js_ret (je_op op_mod opl_mod (je_ix (je_var 0) (je_int)) (je_var 2))))) rd_value_at⟩
theorem ok_fold {P : Program} {w : World} {K : PySem.W.Frag} {mg : Str → Option Value} {base : Heap} (T : Txt K mg) : Ok P w K mg base "fold" 1 ["table", "number", "p"] C_fold := by
  obtain ⟨f, fd, F, hm, b⟩ := T.d_fold
  exact ⟨f, fd, hm, F.kp, b, okD (W := W_fold) (k := 0) F sc_fold (fun cdv A outer s H E hr => jss_cons (js_set 3 sc_fold.nd rfl (Or.inl rfl) (je_op op_fdivW opl_div (je_callB call_len cbl_len (by rfl) T.n_len bt_len (ja_cons (je_var 0) (ja_nil))) (je_int))) (jss_one (js_ret (je_lc (own := [("k", 4)]) rfl sc_fold.nd (ji_range1 (by rfl) T.n_range (ja_cons (je_var 3) (ja_nil))) (blkOk_by (N := ["table", "number", "p", "half", "k"]) (sc := defScope s_fold) (by decide +kernel)) (fun _ _ _ _ _ => jg_name (js := [4]) 4 (by decide) sc_fold.nd rfl (Or.inl rfl)) (fun _ _ _ _ _ => jts_nil) (fun _ _ _ _ _ => je_op op_mod opl_mod (je_op op_addAll opl_add (je_ix (je_var 0) (je_op op_mulC opl_mul (je_int) (je_var 4))) (je_op op_mulC opl_mul (je_var 1) (je_op op_sub opl_sub (je_ix (je_var 0) (je_op op_addAll opl_add (je_op op_mulC opl_mul (je_int) (je_var 4)) (je_int))) (je_ix (je_var 0) (je_op op_mulC opl_mul (je_int) (je_var 4)))))) (je_var 2)))))) rd_fold⟩
theorem ok_is_prime {P : Program} {w : World} {K : PySem.W.Frag} {mg : Str → Option Value} {base : Heap} (T : Txt K mg) : Ok P w K mg base "is_prime" 1 ["number"] C_is_prime := by
  obtain ⟨f, fd, F, hm, b⟩ := T.d_is_prime
  exact ⟨f, fd, hm, F.kp, b, okD (W := W_is_prime) (k := 0) F sc_is_prime (fun cdv A outer s H E hr => jss_cons (js_if (jt_cmp op_lt opl_lt (je_var 0) (je_int) (nomark _)) (jss_one (js_ret (je_cmp op_gt opl_gt (je_var 0) (je_int) (nomark _)))) (jss_nil)) (jss_cons (js_if (jt_cmp (op_eqD hr.units) opl_eq (je_op op_mod opl_mod (je_var 0) (je_int)) (je_int) (nomark _)) (jss_one (js_ret (je_bl))) (jss_nil)) (jss_cons (js_set 1 sc_is_prime.nd rfl (Or.inl rfl) (je_int)) (jss_cons (js_while passD (jt_cmp op_le opl_le (je_op op_mulC opl_mul (je_var 1) (je_var 1)) (je_var 0) (nomark _)) (jss_cons (js_if (jt_cmp (op_eqD hr.units) opl_eq (je_op op_mod opl_mod (je_var 0) (je_var 1)) (je_int) (nomark _)) (jss_one (js_ret (je_bl))) (jss_nil)) (jss_one (js_aug 1 sc_is_prime.nd rfl (Or.inl rfl) (je_int) iop_add opl_addI)))) (jss_one (js_ret (je_bl))))))) rd_is_prime⟩
theorem ok_check_modulus {P : Program} {w : World} {K : PySem.W.Frag} {mg : Str → Option Value} {base : Heap} (T : Txt K mg) (G_FieldError : ErrOk P w K mg base "FieldError" ["number"]) (G_is_prime : Ok P w K mg base "is_prime" 1 ["number"] C_is_prime) : Ok P w K mg base "check_modulus" 3 ["p"] C_check_modulus := by
  obtain ⟨f, fd, F, hm, b⟩ := T.d_check_modulus
  exact ⟨f, fd, hm, F.kp, b, okD (W := W_check_modulus) (k := 2) F sc_check_modulus (fun cdv A outer s H E hr => jss_one (js_if (PW.pt (jw_or (jt_not (jt_chain op_le opl_le op_le opl_le (je_int) (je_var 0) ((je_globE (by rfl) T.k_MOST)))) (jw_or1 (jt_not (jt_val (je_callO G_is_prime takesD (hr.mono (by decide)) (by rfl) (ja_cons (je_var 0) (ja_nil)) 1)))))) (jss_one (js_raise (c := "FieldError") (fs := ["number"]) rfl takesD G_FieldError (by rfl) (hr.mono (by decide)) (ja_cons (je_var 0) (ja_nil)))) (jss_nil))) rd_check_modulus⟩
theorem ok_power {P : Program} {w : World} {K : PySem.W.Frag} {mg : Str → Option Value} {base : Heap} (T : Txt K mg) : Ok P w K mg base "power" 1 ["base", "exponent", "p"] C_power := by
  obtain ⟨f, fd, F, hm, b⟩ := T.d_power
  exact ⟨f, fd, hm, F.kp, b, okD (W := W_power) (k := 0) F sc_power (fun cdv A outer s H E hr => jss_cons (js_set 3 sc_power.nd rfl (Or.inl rfl) (je_op op_mod opl_mod (je_int) (je_var 2))) (jss_cons (js_set 4 sc_power.nd rfl (Or.inl rfl) (je_op op_mod opl_mod (je_var 0) (je_var 2))) (jss_cons (js_while passD (jt_cmp op_gt opl_gt (je_var 1) (je_int) (nomark _)) (jss_cons (js_if (jt_cmp (op_eqD hr.units) opl_eq (je_op op_mod opl_mod (je_var 1) (je_int)) (je_int) (nomark _)) (jss_one (js_set 3 sc_power.nd rfl (Or.inl rfl) (je_op op_mod opl_mod (je_op op_mulC opl_mul (je_var 3) (je_var 4)) (je_var 2)))) (jss_nil)) (jss_cons (js_set 4 sc_power.nd rfl (Or.inl rfl) (je_op op_mod opl_mod (je_op op_mulC opl_mul (je_var 4) (je_var 4)) (je_var 2))) (jss_one (js_aug 1 sc_power.nd rfl (Or.inl rfl) (je_int) iop_fdiv opl_idiv))))) (jss_one (js_ret (je_var 3)))))) rd_power⟩
theorem ok_inverse {P : Program} {w : World} {K : PySem.W.Frag} {mg : Str → Option Value} {base : Heap} (T : Txt K mg) (G_FieldError : ErrOk P w K mg base "FieldError" ["number"]) (G_power : Ok P w K mg base "power" 1 ["base", "exponent", "p"] C_power) : Ok P w K mg base "inverse" 3 ["number", "p"] C_inverse := by
  obtain ⟨f, fd, F, hm, b⟩ := T.d_inverse
  exact ⟨f, fd, hm, F.kp, b, okD (W := W_inverse) (k := 2) F sc_inverse (fun cdv A outer s H E hr => jss_cons (js_if (jt_cmp (op_eqD hr.units) opl_eq (je_op op_mod opl_mod (je_var 0) (je_var 1)) (je_int) (nomark _)) (jss_one (js_raise (c := "FieldError") (fs := ["number"]) rfl takesD G_FieldError (by rfl) (hr.mono (by decide)) (ja_cons (je_var 0) (ja_nil)))) (jss_nil)) (jss_one (js_ret (je_callO G_power takesD (hr.mono (by decide)) (by rfl) (ja_cons (je_var 0) (ja_cons (je_op op_sub opl_sub (je_var 1) (je_int)) (ja_cons (je_var 1) (ja_nil)))) 3)))) rd_inverse⟩
theorem ok_is_number {P : Program} {w : World} {K : PySem.W.Frag} {mg : Str → Option Value} {base : Heap} (T : Txt K mg) : Ok P w K mg base "is_number" 1 ["number", "p"] C_is_number := by
  obtain ⟨f, fd, F, hm, b⟩ := T.d_is_number
  exact ⟨f, fd, hm, F.kp, b, okD (W := W_is_number) (k := 0) F sc_is_number (fun cdv A outer s H E hr => jss_one (js_ret (je_chain op_le opl_le op_lt opl_lt (je_int) (je_var 0) (je_var 1)))) rd_is_number⟩
theorem ok_weights {P : Program} {w : World} {K : PySem.W.Frag} {mg : Str → Option Value} {base : Heap} (T : Txt K mg) (G_inverse : Ok P w K mg base "inverse" 3 ["number", "p"] C_inverse) : Ok P w K mg base "weights" 4 ["many", "t", "p"] C_weights := by
  obtain ⟨f, fd, F, hm, b⟩ := T.d_weights
  exact ⟨f, fd, hm, F.kp, b, okDQ (W := W_weights) (k := 3) F sc_weights (fun cdv A outer s H E hr => jss_cons (js_set 3 sc_weights.nd rfl (Or.inl rfl) (je_lstM (ja_nil))) (jss_cons (js_for passD rfl (ji_range1 (by rfl) T.n_range (ja_cons (je_var 0) (ja_nil))) (jg_name (js := [4]) 4 (by decide) sc_weights.nd rfl (Or.inl rfl)) (jss_cons (js_set 5 sc_weights.nd rfl (Or.inl rfl) (je_int)) (jss_cons (js_set 6 sc_weights.nd rfl (Or.inl rfl) (je_int)) (jss_cons (js_for passD rfl (ji_range1 (by rfl) T.n_range (ja_cons (je_var 0) (ja_nil))) (jg_name (js := [7]) 7 (by decide) sc_weights.nd rfl (Or.inl rfl)) (jss_one (js_if (jt_cmp (op_neD hr.units) opl_ne (je_var 7) (je_var 4) (nomark _)) (jss_cons (js_set 5 sc_weights.nd rfl (Or.inl rfl) (je_op op_mod opl_mod (je_op op_mulC opl_mul (je_var 5) (je_op op_sub opl_sub (je_var 1) (je_var 7))) (je_var 2))) (jss_one (js_set 6 sc_weights.nd rfl (Or.inl rfl) (je_op op_mod opl_mod (je_op op_mulC opl_mul (je_var 6) (je_op op_sub opl_sub (je_var 4) (je_var 7))) (je_var 2))))) (jss_nil)))) (jss_one (js_expr (je_mL PySem.F.slot_list_append PySem.F.type_list_append mt_append mtl_app (je_var 3) (ja_cons (je_op op_mod opl_mod (je_op op_mulC opl_mul (je_var 5) (je_callO G_inverse takesD (hr.mono (by decide)) (by rfl) (ja_cons (je_var 6) (ja_cons (je_var 2) (ja_nil))) 2)) (je_var 2)) (ja_nil))))))))) (jss_one (js_ret (je_var 3))))) rd_weights⟩
theorem ok_value {P : Program} {w : World} {K : PySem.W.Frag} {mg : Str → Option Value} {base : Heap} (T : Txt K mg) (G_weights : Ok P w K mg base "weights" 4 ["many", "t", "p"] C_weights) : Ok P w K mg base "value" 5 ["values", "t", "p"] C_value := by
  obtain ⟨f, fd, F, hm, b⟩ := T.d_value
  exact ⟨f, fd, hm, F.kp, b, okD (W := W_value) (k := 4) F sc_value (fun cdv A outer s H E hr => jss_cons (js_if (jt_cmp op_lt opl_lt (je_var 1) (je_callB call_len cbl_len (by rfl) T.n_len bt_len (ja_cons (je_var 0) (ja_nil))) (nomark _)) (jss_one (js_ret (je_ix (je_var 0) (je_var 1)))) (jss_nil)) (jss_cons (js_set 3 sc_value.nd rfl (Or.inl rfl) (je_int)) (jss_cons (js_for passD rfl (ji_enumerate (by rfl) T.n_enumerate (ja_cons (je_callO G_weights takesD (hr.mono (by decide)) (by rfl) (ja_cons (je_callB call_len cbl_len (by rfl) T.n_len bt_len (ja_cons (je_var 0) (ja_nil))) (ja_cons (je_var 1) (ja_cons (je_var 2) (ja_nil)))) 3) (ja_nil))) (jg_tup (js := [4, 5]) [4, 5] rfl (by decide) (pgs_cons (pg_name (i := 4) sc_value.nd rfl (Or.inl rfl)) (pgs_cons (pg_name (i := 5) sc_value.nd rfl (Or.inl rfl)) (pgs_nil)))) (jss_one (js_aug 3 sc_value.nd rfl (Or.inl rfl) (je_op op_mulC opl_mul (je_ix (je_var 0) (je_var 4)) (je_var 5)) iop_add opl_addI))) (jss_one (js_ret (je_op op_mod opl_mod (je_var 3) (je_var 2))))))) rd_value⟩
theorem ok_corners {P : Program} {w : World} {K : PySem.W.Frag} {mg : Str → Option Value} {base : Heap} (T : Txt K mg) : Ok P w K mg base "corners" 1 ["values", "p"] C_corners := by
  obtain ⟨f, fd, F, hm, b⟩ := T.d_corners
  exact ⟨f, fd, hm, F.kp, b, okD (W := W_corners) (k := 0) F sc_corners (fun cdv A outer s H E hr => jss_cons (js_if (jt_cmp (op_eqD hr.units) opl_eq (je_callB call_len cbl_len (by rfl) T.n_len bt_len (ja_cons (je_var 0) (ja_nil))) (je_int) (nomark _)) (jss_one (js_ret (je_op op_mod opl_mod (je_op op_mulC opl_mul (je_int) (je_ix (je_var 0) (je_int))) (je_var 1)))) (jss_nil)) (jss_one (js_ret (je_op op_mod opl_mod (je_op op_addAll opl_add (je_ix (je_var 0) (je_int)) (je_ix (je_var 0) (je_int))) (je_var 1))))) rd_corners⟩
theorem ok_same {P : Program} {w : World} {K : PySem.W.Frag} {mg : Str → Option Value} {base : Heap} (T : Txt K mg) (G_value : Ok P w K mg base "value" 5 ["values", "t", "p"] C_value) : Ok P w K mg base "same" 6 ["values", "others", "p"] C_same := by
  obtain ⟨f, fd, F, hm, b⟩ := T.d_same
  exact ⟨f, fd, hm, F.kp, b, okD (W := W_same) (k := 5) F sc_same (fun cdv A outer s H E hr => jss_cons (js_set 3 sc_same.nd rfl (Or.inl rfl) (je_callB (call_max2 rfl) cbl_max2 (by rfl) T.n_max bt_max (ja_cons (je_callB call_len cbl_len (by rfl) T.n_len bt_len (ja_cons (je_var 0) (ja_nil))) (ja_cons (je_callB call_len cbl_len (by rfl) T.n_len bt_len (ja_cons (je_var 1) (ja_nil))) (ja_nil))))) (jss_cons (js_for passD rfl (ji_range1 (by rfl) T.n_range (ja_cons (je_var 3) (ja_nil))) (jg_name (js := [4]) 4 (by decide) sc_same.nd rfl (Or.inl rfl)) (jss_one (js_if (jt_cmp (op_neD hr.units) opl_ne (je_callO G_value takesD (hr.mono (by decide)) (by rfl) (ja_cons (je_var 0) (ja_cons (je_var 4) (ja_cons (je_var 2) (ja_nil)))) 3) (je_callO G_value takesD (hr.mono (by decide)) (by rfl) (ja_cons (je_var 1) (ja_cons (je_var 4) (ja_cons (je_var 2) (ja_nil)))) 3) (nomark _)) (jss_one (js_ret (je_bl))) (jss_nil)))) (jss_one (js_ret (je_bl))))) rd_same⟩
theorem ok_I_SumAsker {P : Program} {w : World} {K : PySem.W.Frag} {mg : Str → Option Value} {base : Heap} (T : Txt K mg) : OkI P w K mg base "SumAsker" 1 ["self", "p", "claim", "degrees"] C_SumAsker_init := by
  obtain ⟨f, fd, F, hm, M, b⟩ := T.mi_SumAsker
  exact ⟨f, fd, hm, M, b, okD (W := (W_SumAsker_init flT)) (k := 0) F sc_SumAsker_init (fun cdv A outer s H E hr => jss_cons (js_fld (f_p_fl T) (je_var 0) (je_var 1)) (jss_cons (js_fld (f_claim_fl T) (je_var 0) (je_var 2)) (jss_cons (js_fld (f_degrees_fl T) (je_var 0) (je_callTy call_list_of cbl_list (by rfl) T.n_list bt_list (ja_cons (je_var 3) (ja_nil)))) (jss_cons (js_fld (f_throws_fl T) (je_var 0) (je_lstM (ja_nil))) (jss_one (js_fld (f_sent_fl T) (je_var 0) (je_non))))))) (rd_SumAsker_init fl_SumAsker)⟩
theorem ok_M_SumAsker_is_done {P : Program} {w : World} {K : PySem.W.Frag} {mg : Str → Option Value} {base : Heap} (T : Txt K mg) : OkM P w K base mg "SumAsker" "is_done" 1 ["self"] C_SumAsker_is_done := by
  obtain ⟨f, fd, F, hc, hm, b⟩ := T.mm_SumAsker_is_done
  exact ⟨f, fd, hc, hm, b, okD (W := (W_SumAsker_is_done flT)) (k := 0) F sc_SumAsker_is_done (fun cdv A outer s H E hr => jss_one (js_ret (je_cmp (op_eqD hr.units) opl_eq (je_callB call_len cbl_len (by rfl) T.n_len bt_len (ja_cons (je_fld (f_throws_fl T) (je_var 0)) (ja_nil))) (je_callB call_len cbl_len (by rfl) T.n_len bt_len (ja_cons (je_fld (f_degrees_fl T) (je_var 0)) (ja_nil))) (nomark _)))) (rd_SumAsker_is_done fl_SumAsker)⟩
theorem ok_M_SumAsker_accept {P : Program} {w : World} {K : PySem.W.Frag} {mg : Str → Option Value} {base : Heap} (T : Txt K mg) (G_TalkError : ErrOk P w K mg base "TalkError" ["step"]) (G_M_SumAsker_is_done : OkM P w K base mg "SumAsker" "is_done" 1 ["self"] C_SumAsker_is_done) (G_corners : Ok P w K mg base "corners" 1 ["values", "p"] C_corners) (G_is_number : Ok P w K mg base "is_number" 1 ["number", "p"] C_is_number) : OkM P w K base mg "SumAsker" "accept" 3 ["self", "values"] C_SumAsker_accept := by
  obtain ⟨f, fd, F, hc, hm, b⟩ := T.mm_SumAsker_accept
  exact ⟨f, fd, hc, hm, b, okD (W := (W_SumAsker_accept flT)) (k := 2) F sc_SumAsker_accept (fun cdv A outer s H E hr => jss_cons (js_if (PW.pt (jw_or (jt_val (je_meth0 (mn := "is_done") (lv := 1) (tab := [("SumAsker", C_SumAsker_is_done)]) (okMs_cons G_M_SumAsker_is_done rfl (by decide) okMs_nil) takesD (hr.mono (by decide)) (je_var 0))) (jw_or1 (jt_cmp op_notN opl_notN (je_fld (f_sent_fl T) (je_var 0)) (je_non) (nomark _))))) (jss_one (js_raise (c := "TalkError") (fs := ["step"]) rfl takesD G_TalkError (by rfl) (hr.mono (by decide)) (ja_cons (je_str) (ja_nil)))) (jss_nil)) (jss_cons (js_if (jt_cmp (op_neD hr.units) opl_ne (je_callB call_len cbl_len (by rfl) T.n_len bt_len (ja_cons (je_var 1) (ja_nil))) (je_op op_addAll opl_add (je_ix (je_fld (f_degrees_fl T) (je_var 0)) (je_callB call_len cbl_len (by rfl) T.n_len bt_len (ja_cons (je_fld (f_throws_fl T) (je_var 0)) (ja_nil)))) (je_int)) (nomark _)) (jss_one (js_ret (je_bl))) (jss_nil)) (jss_cons (js_if (jt_not (jt_val (je_callB (cr_all rfl) cbl_all (by rfl) T.n_all bt_all (ja_cons (je_lc (own := [("number", 2)]) rfl sc_SumAsker_accept.nd (ji_list (je_var 1)) (blkOk_by (N := ["self", "values", "number"]) (sc := defScope s_SumAsker_accept) (by decide +kernel)) (fun _ _ _ _ _ => jg_name (js := [2]) 2 (by decide) sc_SumAsker_accept.nd rfl (Or.inl rfl)) (fun _ _ _ _ _ => jts_nil) (fun _ _ _ _ _ => je_callO G_is_number takes0 (hr.mono (by decide)) (by rfl) (ja_cons (je_var 2) (ja_cons (je_fld (f_p_fl T) (je_var 0)) (ja_nil))) 2)) (ja_nil))))) (jss_one (js_ret (je_bl))) (jss_nil)) (jss_cons (js_if (jt_cmp (op_neD hr.units) opl_ne (je_callO G_corners takesD (hr.mono (by decide)) (by rfl) (ja_cons (je_var 1) (ja_cons (je_fld (f_p_fl T) (je_var 0)) (ja_nil))) 2) (je_fld (f_claim_fl T) (je_var 0)) (nomark _)) (jss_one (js_ret (je_bl))) (jss_nil)) (jss_cons (js_fld (f_sent_fl T) (je_var 0) (je_callTy call_list_of cbl_list (by rfl) T.n_list bt_list (ja_cons (je_var 1) (ja_nil)))) (jss_one (js_ret (je_bl)))))))) (rd_SumAsker_accept fl_SumAsker)⟩
theorem ok_M_SumAsker_throw {P : Program} {w : World} {K : PySem.W.Frag} {mg : Str → Option Value} {base : Heap} (T : Txt K mg) (G_TalkError : ErrOk P w K mg base "TalkError" ["step"]) (G_value : Ok P w K mg base "value" 5 ["values", "t", "p"] C_value) : OkM P w K base mg "SumAsker" "throw" 6 ["self", "number"] C_SumAsker_throw := by
  obtain ⟨f, fd, F, hc, hm, b⟩ := T.mm_SumAsker_throw
  exact ⟨f, fd, hc, hm, b, okD (W := (W_SumAsker_throw flT)) (k := 5) F sc_SumAsker_throw (fun cdv A outer s H E hr => jss_cons (js_if (jt_cmp op_isN opl_isN (je_fld (f_sent_fl T) (je_var 0)) (je_non) (nomark _)) (jss_one (js_raise (c := "TalkError") (fs := ["step"]) rfl takesD G_TalkError (by rfl) (hr.mono (by decide)) (ja_cons (je_str) (ja_nil)))) (jss_nil)) (jss_cons (js_fld (f_claim_fl T) (je_var 0) (je_callO G_value takesD (hr.mono (by decide)) (by rfl) (ja_cons (je_fld (f_sent_fl T) (je_var 0)) (ja_cons (je_var 1) (ja_cons (je_fld (f_p_fl T) (je_var 0)) (ja_nil)))) 3)) (jss_cons (js_expr (je_mL PySem.F.slot_list_append PySem.F.type_list_append mt_append mtl_app (je_fld (f_throws_fl T) (je_var 0)) (ja_cons (je_var 1) (ja_nil)))) (jss_one (js_fld (f_sent_fl T) (je_var 0) (je_non)))))) (rd_SumAsker_throw fl_SumAsker)⟩
theorem ok_multiply {P : Program} {w : World} {K : PySem.W.Frag} {mg : Str → Option Value} {base : Heap} (T : Txt K mg) : Ok P w K mg base "multiply" 1 ["left", "right", "sizes", "p"] C_multiply := by
  obtain ⟨f, fd, F, hm, b⟩ := T.d_multiply
  exact ⟨f, fd, hm, F.kp, b, okDQ (W := W_multiply) (k := 0) F sc_multiply (fun cdv A outer s H E hr => jss_cons (js_asg (je_var 2) (jg_tup (js := [4, 5, 6]) [4, 5, 6] rfl (by decide) (pgs_cons (pg_name (i := 4) sc_multiply.nd rfl (Or.inr rfl)) (pgs_cons (pg_name (i := 5) sc_multiply.nd rfl (Or.inr rfl)) (pgs_cons (pg_name (i := 6) sc_multiply.nd rfl (Or.inl rfl)) (pgs_nil)))))) (jss_cons (js_set 7 sc_multiply.nd rfl (Or.inl rfl) (je_lstM (ja_nil))) (jss_cons (js_for passD rfl (ji_range1 (by rfl) T.n_range (ja_cons (je_op op_shl opl_shl (je_int) (je_var 6)) (ja_nil))) (jg_name (js := [8]) 8 (by decide) sc_multiply.nd rfl (Or.inr rfl)) (jss_one (js_for passD rfl (ji_range1 (by rfl) T.n_range (ja_cons (je_op op_shl opl_shl (je_int) (je_var 4)) (ja_nil))) (jg_name (js := [9]) 9 (by decide) sc_multiply.nd rfl (Or.inr rfl)) (jss_one (js_expr (je_mL PySem.F.slot_list_append PySem.F.type_list_append mt_append mtl_app (je_var 7) (ja_cons (je_op op_mod opl_mod (je_callB (cr_sum rfl) cbl_sum (by rfl) T.n_sum bt_sum (ja_cons (je_lc (own := [("k", 10)]) rfl sc_multiply.nd (ji_range1 (by rfl) T.n_range (ja_cons (je_op op_shl opl_shl (je_int) (je_var 5)) (ja_nil))) (blkOk_by (N := ["left", "right", "sizes", "p", "a", "b", "c", "found", "j", "i", "k"]) (sc := defScope s_multiply) (by decide +kernel)) (fun _ _ _ _ _ => jg_name (js := [10]) 10 (by decide) sc_multiply.nd rfl (Or.inl rfl)) (fun _ _ _ _ _ => jts_nil) (fun _ _ _ _ _ => je_op op_mulC opl_mul (je_ix (je_var 0) (je_op op_addAll opl_add (je_var 9) (je_op op_shl opl_shl (je_var 10) (je_var 4)))) (je_ix (je_var 1) (je_op op_addAll opl_add (je_var 10) (je_op op_shl opl_shl (je_var 8) (je_var 5)))))) (ja_nil))) (je_var 3)) (ja_nil)))))))) (jss_one (js_ret (je_var 7)))))) rd_multiply⟩
theorem ok_check_field {P : Program} {w : World} {K : PySem.W.Frag} {mg : Str → Option Value} {base : Heap} (T : Txt K mg) (G_CircuitError : ErrOk P w K mg base "CircuitError" ["part"]) (G_check_modulus : Ok P w K mg base "check_modulus" 3 ["p"] C_check_modulus) : Ok P w K mg base "check_field" 4 ["p"] C_check_field := by
  obtain ⟨f, fd, F, hm, b⟩ := T.d_check_field
  exact ⟨f, fd, hm, F.kp, b, okD (W := W_check_field) (k := 3) F sc_check_field (fun cdv A outer s H E hr => jss_cons (js_expr (je_callO G_check_modulus takesD (hr.mono (by decide)) (by rfl) (ja_cons (je_var 0) (ja_nil)) 1)) (jss_one (js_if (jt_cmp (op_eqD hr.units) opl_eq (je_var 0) (je_int) (nomark _)) (jss_one (js_raise (c := "CircuitError") (fs := ["part"]) rfl takesD G_CircuitError (by rfl) (hr.mono (by decide)) (ja_cons (je_str) (ja_nil)))) (jss_nil)))) rd_check_field⟩
theorem ok_check_sizes {P : Program} {w : World} {K : PySem.W.Frag} {mg : Str → Option Value} {base : Heap} (T : Txt K mg) (G_SizeError : ErrOk P w K mg base "SizeError" ["limit"]) (G_check_field : Ok P w K mg base "check_field" 4 ["p"] C_check_field) : Ok P w K mg base "check_sizes" 5 ["sizes", "p"] C_check_sizes := by
  obtain ⟨f, fd, F, hm, b⟩ := T.d_check_sizes
  exact ⟨f, fd, hm, F.kp, b, okD (W := W_check_sizes) (k := 4) F sc_check_sizes (fun cdv A outer s H E hr => jss_cons (js_asg (je_var 0) (jg_tup (js := [2, 3, 4]) [2, 3, 4] rfl (by decide) (pgs_cons (pg_name (i := 2) sc_check_sizes.nd rfl (Or.inl rfl)) (pgs_cons (pg_name (i := 3) sc_check_sizes.nd rfl (Or.inl rfl)) (pgs_cons (pg_name (i := 4) sc_check_sizes.nd rfl (Or.inl rfl)) (pgs_nil)))))) (jss_cons (js_expr (je_callO G_check_field takesD (hr.mono (by decide)) (by rfl) (ja_cons (je_var 1) (ja_nil)) 1)) (jss_one (js_if (jt_cmp op_gt opl_gt (je_callB (call_max3 rfl) cbl_max3 (by rfl) T.n_max bt_max (ja_cons (je_op op_addAll opl_add (je_var 2) (je_var 3)) (ja_cons (je_op op_addAll opl_add (je_var 3) (je_var 4)) (ja_cons (je_op op_addAll opl_add (je_var 2) (je_var 4)) (ja_nil))))) ((je_globE (by rfl) T.k_MOST_BITS)) (nomark _)) (jss_one (js_raise (c := "SizeError") (fs := ["limit"]) rfl takesD G_SizeError (by rfl) (hr.mono (by decide)) (ja_cons (je_str) (ja_nil)))) (jss_nil))))) rd_check_sizes⟩
theorem ok_check_matrix {P : Program} {w : World} {K : PySem.W.Frag} {mg : Str → Option Value} {base : Heap} (T : Txt K mg) (G_CircuitError : ErrOk P w K mg base "CircuitError" ["part"]) (G_is_number : Ok P w K mg base "is_number" 1 ["number", "p"] C_is_number) : Ok P w K mg base "check_matrix" 3 ["table", "bits", "p"] C_check_matrix := by
  obtain ⟨f, fd, F, hm, b⟩ := T.d_check_matrix
  exact ⟨f, fd, hm, F.kp, b, okD (W := W_check_matrix) (k := 2) F sc_check_matrix (fun cdv A outer s H E hr => jss_one (js_if (PW.pt (jw_or (jt_cmp (op_neD hr.units) opl_ne (je_callB call_len cbl_len (by rfl) T.n_len bt_len (ja_cons (je_var 0) (ja_nil))) (je_op op_shl opl_shl (je_int) (je_var 1)) (nomark _)) (jw_or1 (jt_not (jt_val (je_callB (cr_all rfl) cbl_all (by rfl) T.n_all bt_all (ja_cons (je_lc (own := [("number", 3)]) rfl sc_check_matrix.nd (ji_list (je_var 0)) (blkOk_by (N := ["table", "bits", "p", "number"]) (sc := defScope s_check_matrix) (by decide +kernel)) (fun _ _ _ _ _ => jg_name (js := [3]) 3 (by decide) sc_check_matrix.nd rfl (Or.inl rfl)) (fun _ _ _ _ _ => jts_nil) (fun _ _ _ _ _ => je_callO G_is_number takes0 (hr.mono (by decide)) (by rfl) (ja_cons (je_var 3) (ja_cons (je_var 2) (ja_nil))) 2)) (ja_nil)))))))) (jss_one (js_raise (c := "CircuitError") (fs := ["part"]) rfl takesD G_CircuitError (by rfl) (hr.mono (by decide)) (ja_cons (je_str) (ja_nil)))) (jss_nil))) rd_check_matrix⟩
theorem ok_I_ProductTurn {P : Program} {w : World} {K : PySem.W.Frag} {mg : Str → Option Value} {base : Heap} (T : Txt K mg) (G_I_SumAsker : OkI P w K mg base "SumAsker" 1 ["self", "p", "claim", "degrees"] C_SumAsker_init) : OkI P w K mg base "ProductTurn" 3 ["self", "p", "sizes", "point", "claim"] C_ProductTurn_init := by
  obtain ⟨f, fd, F, hm, M, b⟩ := T.mi_ProductTurn
  exact ⟨f, fd, hm, M, b, okD (W := (W_ProductTurn_init flT)) (k := 2) F sc_ProductTurn_init (fun cdv A outer s H E hr => jss_cons (js_fld (f_p_fl T) (je_var 0) (je_var 1)) (jss_cons (js_fld (f_row_point_fl T) (je_var 0) (je_callTy call_list_of cbl_list (by rfl) T.n_list bt_list (ja_cons (je_sl (je_var 3) (jo_none) (jo_some (je_ix (je_var 2) (je_int)))) (ja_nil)))) (jss_cons (js_fld (f_column_point_fl T) (je_var 0) (je_callTy call_list_of cbl_list (by rfl) T.n_list bt_list (ja_cons (je_sl (je_var 3) (jo_some (je_ix (je_var 2) (je_int))) (jo_none)) (ja_nil)))) (jss_cons (js_fld (f_sums_fl T) (je_var 0) (je_make G_I_SumAsker takesD (hr.mono (by decide)) (by rfl) (ja_cons (je_var 1) (ja_cons (je_var 4) (ja_cons (je_op op_rep opl_rep (je_lst (ja_cons (je_int) (ja_nil))) (je_ix (je_var 2) (je_int))) (ja_nil)))) 3)) (jss_cons (js_fld (f_points_fl T) (je_var 0) (je_non)) (jss_one (js_fld (f_claims_fl T) (je_var 0) (je_non)))))))) (rd_ProductTurn_init fl_ProductTurn)⟩
theorem ok_M_ProductTurn_accept_pair {P : Program} {w : World} {K : PySem.W.Frag} {mg : Str → Option Value} {base : Heap} (T : Txt K mg) (G_TalkError : ErrOk P w K mg base "TalkError" ["step"]) (G_M_SumAsker_is_done : OkM P w K base mg "SumAsker" "is_done" 1 ["self"] C_SumAsker_is_done) (G_is_number : Ok P w K mg base "is_number" 1 ["number", "p"] C_is_number) : OkM P w K base mg "ProductTurn" "accept_pair" 3 ["self", "values"] C_ProductTurn_accept_pair := by
  obtain ⟨f, fd, F, hc, hm, b⟩ := T.mm_ProductTurn_accept_pair
  exact ⟨f, fd, hc, hm, b, okD (W := (W_ProductTurn_accept_pair flT)) (k := 2) F sc_ProductTurn_accept_pair (fun cdv A outer s H E hr => jss_cons (js_if (PW.pt (jw_or (jt_not (jt_val (je_meth0 (mn := "is_done") (lv := 1) (tab := [("SumAsker", C_SumAsker_is_done)]) (okMs_cons G_M_SumAsker_is_done rfl (by decide) okMs_nil) takesD (hr.mono (by decide)) (je_fld (f_sums_fl T) (je_var 0))))) (jw_or1 (jt_cmp op_notN opl_notN (je_fld (f_claims_fl T) (je_var 0)) (je_non) (nomark _))))) (jss_one (js_raise (c := "TalkError") (fs := ["step"]) rfl takesD G_TalkError (by rfl) (hr.mono (by decide)) (ja_cons (je_str) (ja_nil)))) (jss_nil)) (jss_cons (js_if (PW.pt (jw_or (jt_cmp (op_neD hr.units) opl_ne (je_callB call_len cbl_len (by rfl) T.n_len bt_len (ja_cons (je_var 1) (ja_nil))) (je_int) (nomark _)) (jw_or1 (jt_not (jt_val (je_callB (cr_all rfl) cbl_all (by rfl) T.n_all bt_all (ja_cons (je_lc (own := [("number", 3)]) rfl sc_ProductTurn_accept_pair.nd (ji_list (je_var 1)) (blkOk_by (N := ["self", "values", "middle", "number"]) (sc := defScope s_ProductTurn_accept_pair) (by decide +kernel)) (fun _ _ _ _ _ => jg_name (js := [3]) 3 (by decide) sc_ProductTurn_accept_pair.nd rfl (Or.inl rfl)) (fun _ _ _ _ _ => jts_nil) (fun _ _ _ _ _ => je_callO G_is_number takes0 (hr.mono (by decide)) (by rfl) (ja_cons (je_var 3) (ja_cons (je_fld (f_p_fl T) (je_var 0)) (ja_nil))) 2)) (ja_nil)))))))) (jss_one (js_ret (je_bl))) (jss_nil)) (jss_cons (js_if (jt_cmp (op_neD hr.units) opl_ne (je_op op_mod opl_mod (je_op op_mulC opl_mul (je_ix (je_var 1) (je_int)) (je_ix (je_var 1) (je_int))) (je_fld (f_p_fl T) (je_var 0))) (je_fld (f_claim_fl T) (je_fld (f_sums_fl T) (je_var 0))) (nomark _)) (jss_one (js_ret (je_bl))) (jss_nil)) (jss_cons (js_set 2 sc_ProductTurn_accept_pair.nd rfl (Or.inl rfl) (je_fld (f_throws_fl T) (je_fld (f_sums_fl T) (je_var 0)))) (jss_cons (js_fld (f_points_fl T) (je_var 0) (je_lst (ja_cons (je_op op_addAll opl_add (je_fld (f_row_point_fl T) (je_var 0)) (je_var 2)) (ja_cons (je_op op_addAll opl_add (je_var 2) (je_fld (f_column_point_fl T) (je_var 0))) (ja_nil))))) (jss_cons (js_fld (f_claims_fl T) (je_var 0) (je_callTy call_list_of cbl_list (by rfl) T.n_list bt_list (ja_cons (je_var 1) (ja_nil)))) (jss_one (js_ret (je_bl))))))))) (rd_ProductTurn_accept_pair fl_ProductTurn)⟩
theorem ok_I_ProductAnswerer {P : Program} {w : World} {K : PySem.W.Frag} {mg : Str → Option Value} {base : Heap} (T : Txt K mg) (G_point_table : Ok P w K mg base "point_table" 1 ["point", "p"] C_point_table) (G_fold : Ok P w K mg base "fold" 1 ["table", "number", "p"] C_fold) : OkI P w K mg base "ProductAnswerer" 2 ["self", "p", "left", "right", "sizes", "point"] C_ProductAnswerer_init := by
  obtain ⟨f, fd, F, hm, M, b⟩ := T.mi_ProductAnswerer
  exact ⟨f, fd, hm, M, b, okD (W := (W_ProductAnswerer_init flT)) (k := 1) F sc_ProductAnswerer_init (fun cdv A outer s H E hr => jss_cons (js_asg (je_var 4) (jg_tup (js := [6, 7, 8]) [6, 7, 8] rfl (by decide) (pgs_cons (pg_name (i := 6) sc_ProductAnswerer_init.nd rfl (Or.inl rfl)) (pgs_cons (pg_name (i := 7) sc_ProductAnswerer_init.nd rfl (Or.inr rfl)) (pgs_cons (pg_name (i := 8) sc_ProductAnswerer_init.nd rfl (Or.inr rfl)) (pgs_nil)))))) (jss_cons (js_fld (f_p_fl T) (je_var 0) (je_var 1)) (jss_cons (js_fld (f_first_fl T) (je_var 0) (je_callTy call_list_of cbl_list (by rfl) T.n_list bt_list (ja_cons (je_var 2) (ja_nil)))) (jss_cons (js_for passD rfl (ji_list (je_sl (je_var 5) (jo_none) (jo_some (je_var 6)))) (jg_name (js := [9]) 9 (by decide) sc_ProductAnswerer_init.nd rfl (Or.inl rfl)) (jss_one (js_fld (f_first_fl T) (je_var 0) (je_callO G_fold takesD (hr.mono (by decide)) (by rfl) (ja_cons (je_fld (f_first_fl T) (je_var 0)) (ja_cons (je_var 9) (ja_cons (je_var 1) (ja_nil)))) 3)))) (jss_cons (js_set 10 sc_ProductAnswerer_init.nd rfl (Or.inr rfl) (je_callO G_point_table takesD (hr.mono (by decide)) (by rfl) (ja_cons (je_sl (je_var 5) (jo_some (je_var 6)) (jo_none)) (ja_cons (je_var 1) (ja_nil))) 2)) (jss_one (js_fld (f_second_fl T) (je_var 0) (je_lc (own := [("k", 11)]) rfl sc_ProductAnswerer_init.nd (ji_range1 (by rfl) T.n_range (ja_cons (je_op op_shl opl_shl (je_int) (je_var 7)) (ja_nil))) (blkOk_by (N := ["self", "p", "left", "right", "sizes", "point", "a", "b", "c", "number", "near", "k", "j"]) (sc := defScope s_ProductAnswerer_init) (by decide +kernel)) (fun _ _ _ _ _ => jg_name (js := [11]) 11 (by decide) sc_ProductAnswerer_init.nd rfl (Or.inr rfl)) (fun _ _ _ _ _ => jts_nil) (fun _ _ _ _ _ => je_op op_mod opl_mod (je_callB (cr_sum rfl) cbl_sum (by rfl) T.n_sum bt_sum (ja_cons (je_lc (own := [("j", 12)]) rfl sc_ProductAnswerer_init.nd (ji_range1 (by rfl) T.n_range (ja_cons (je_op op_shl opl_shl (je_int) (je_var 8)) (ja_nil))) (blkOk_in (N := ["self", "p", "left", "right", "sizes", "point", "a", "b", "c", "number", "near", "k", "j"]) (sc := defScope s_ProductAnswerer_init) rfl rfl (blkOk_by (by decide +kernel))) (fun _ _ _ _ _ => jg_name (js := [12]) 12 (by decide) sc_ProductAnswerer_init.nd rfl (Or.inl rfl)) (fun _ _ _ _ _ => jts_nil) (fun _ _ _ _ _ => je_op op_mulC opl_mul (je_ix (je_var 10) (je_var 12)) (je_ix (je_var 3) (je_op op_addAll opl_add (je_var 11) (je_op op_shl opl_shl (je_var 12) (je_var 7)))))) (ja_nil))) (je_var 1)))))))))) (rd_ProductAnswerer_init fl_ProductAnswerer)⟩
theorem ok_M_ProductAnswerer_poly {P : Program} {w : World} {K : PySem.W.Frag} {mg : Str → Option Value} {base : Heap} (T : Txt K mg) (G_fold : Ok P w K mg base "fold" 1 ["table", "number", "p"] C_fold) : OkM P w K base mg "ProductAnswerer" "poly" 2 ["self"] C_ProductAnswerer_poly := by
  obtain ⟨f, fd, F, hc, hm, b⟩ := T.mm_ProductAnswerer_poly
  exact ⟨f, fd, hc, hm, b, okDQ (W := (W_ProductAnswerer_poly flT)) (k := 1) F sc_ProductAnswerer_poly (fun cdv A outer s H E hr => jss_cons (js_set 1 sc_ProductAnswerer_poly.nd rfl (Or.inl rfl) (je_lstM (ja_nil))) (jss_cons (js_for passD rfl (ji_range1 (by rfl) T.n_range (ja_cons (je_int) (ja_nil))) (jg_name (js := [2]) 2 (by decide) sc_ProductAnswerer_poly.nd rfl (Or.inl rfl)) (jss_cons (js_set 3 sc_ProductAnswerer_poly.nd rfl (Or.inl rfl) (je_callO G_fold takesD (hr.mono (by decide)) (by rfl) (ja_cons (je_fld (f_first_fl T) (je_var 0)) (ja_cons (je_var 2) (ja_cons (je_fld (f_p_fl T) (je_var 0)) (ja_nil)))) 3)) (jss_cons (js_set 4 sc_ProductAnswerer_poly.nd rfl (Or.inl rfl) (je_callO G_fold takesD (hr.mono (by decide)) (by rfl) (ja_cons (je_fld (f_second_fl T) (je_var 0)) (ja_cons (je_var 2) (ja_cons (je_fld (f_p_fl T) (je_var 0)) (ja_nil)))) 3)) (jss_one (js_expr (je_mL PySem.F.slot_list_append PySem.F.type_list_append mt_append mtl_app (je_var 1) (ja_cons (je_op op_mod opl_mod (je_callB (cr_sum rfl) cbl_sum (by rfl) T.n_sum bt_sum (ja_cons (je_lc (own := [("one", 5), ("other", 6)]) rfl sc_ProductAnswerer_poly.nd (ji_zip (by rfl) T.n_zip (ja_cons (je_var 3) (ja_cons (je_var 4) (ja_nil)))) (blkOk_by (N := ["self", "found", "t", "first", "second", "one", "other"]) (sc := defScope s_ProductAnswerer_poly) (by decide +kernel)) (fun _ _ _ _ _ => jg_tup (js := [5, 6]) [5, 6] rfl (by decide) (pgs_cons (pg_name (i := 5) sc_ProductAnswerer_poly.nd rfl (Or.inl rfl)) (pgs_cons (pg_name (i := 6) sc_ProductAnswerer_poly.nd rfl (Or.inl rfl)) (pgs_nil)))) (fun _ _ _ _ _ => jts_nil) (fun _ _ _ _ _ => je_op op_mulC opl_mul (je_var 5) (je_var 6))) (ja_nil))) (je_fld (f_p_fl T) (je_var 0))) (ja_nil)))))))) (jss_one (js_ret (je_var 1))))) (rd_ProductAnswerer_poly fl_ProductAnswerer)⟩
theorem ok_M_ProductAnswerer_throw {P : Program} {w : World} {K : PySem.W.Frag} {mg : Str → Option Value} {base : Heap} (T : Txt K mg) (G_fold : Ok P w K mg base "fold" 1 ["table", "number", "p"] C_fold) : OkM P w K base mg "ProductAnswerer" "throw" 2 ["self", "number"] C_ProductAnswerer_throw := by
  obtain ⟨f, fd, F, hc, hm, b⟩ := T.mm_ProductAnswerer_throw
  exact ⟨f, fd, hc, hm, b, okD (W := (W_ProductAnswerer_throw flT)) (k := 1) F sc_ProductAnswerer_throw (fun cdv A outer s H E hr => jss_cons (js_fld (f_first_fl T) (je_var 0) (je_callO G_fold takesD (hr.mono (by decide)) (by rfl) (ja_cons (je_fld (f_first_fl T) (je_var 0)) (ja_cons (je_var 1) (ja_cons (je_fld (f_p_fl T) (je_var 0)) (ja_nil)))) 3)) (jss_one (js_fld (f_second_fl T) (je_var 0) (je_callO G_fold takesD (hr.mono (by decide)) (by rfl) (ja_cons (je_fld (f_second_fl T) (je_var 0)) (ja_cons (je_var 1) (ja_cons (je_fld (f_p_fl T) (je_var 0)) (ja_nil)))) 3)))) (rd_ProductAnswerer_throw fl_ProductAnswerer)⟩
theorem ok_M_ProductAnswerer_pair {P : Program} {w : World} {K : PySem.W.Frag} {mg : Str → Option Value} {base : Heap} (T : Txt K mg) : OkM P w K base mg "ProductAnswerer" "pair" 1 ["self"] C_ProductAnswerer_pair := by
  obtain ⟨f, fd, F, hc, hm, b⟩ := T.mm_ProductAnswerer_pair
  exact ⟨f, fd, hc, hm, b, okD (W := (W_ProductAnswerer_pair flT)) (k := 0) F sc_ProductAnswerer_pair (fun cdv A outer s H E hr => jss_one (js_ret (je_lst (ja_cons (je_op op_mod opl_mod (je_ix (je_fld (f_first_fl T) (je_var 0)) (je_int)) (je_fld (f_p_fl T) (je_var 0))) (ja_cons (je_op op_mod opl_mod (je_ix (je_fld (f_second_fl T) (je_var 0)) (je_int)) (je_fld (f_p_fl T) (je_var 0))) (ja_nil)))))) (rd_ProductAnswerer_pair fl_ProductAnswerer)⟩
theorem ok_product_throws {P : Program} {w : World} {K : PySem.W.Frag} {mg : Str → Option Value} {base : Heap} (T : Txt K mg) : Ok P w K mg base "product_throws" 1 ["sizes"] C_product_throws := by
  obtain ⟨f, fd, F, hm, b⟩ := T.d_product_throws
  exact ⟨f, fd, hm, F.kp, b, okD (W := W_product_throws) (k := 0) F sc_product_throws (fun cdv A outer s H E hr => jss_one (js_ret (je_callB (cr_sumT rfl) cbl_sumT (by rfl) T.n_sum bt_sum (ja_cons (je_var 0) (ja_nil))))) rd_product_throws⟩
theorem ok_product_share {P : Program} {w : World} {K : PySem.W.Frag} {mg : Str → Option Value} {base : Heap} (T : Txt K mg) : Ok P w K mg base "product_share" 1 ["sizes"] C_product_share := by
  obtain ⟨f, fd, F, hm, b⟩ := T.d_product_share
  exact ⟨f, fd, hm, F.kp, b, okD (W := W_product_share) (k := 0) F sc_product_share (fun cdv A outer s H E hr => jss_one (js_ret (je_op op_addAll opl_add (je_op op_addAll opl_add (je_ix (je_var 0) (je_int)) (je_ix (je_var 0) (je_int))) (je_op op_mulC opl_mul (je_int) (je_ix (je_var 0) (je_int)))))) rd_product_share⟩
theorem ok_check_talk {P : Program} {w : World} {K : PySem.W.Frag} {mg : Str → Option Value} {base : Heap} (T : Txt K mg) (G_TalkError : ErrOk P w K mg base "TalkError" ["step"]) (G_is_number : Ok P w K mg base "is_number" 1 ["number", "p"] C_is_number) : Ok P w K mg base "check_talk" 3 ["many", "rounds", "throws", "polynomials", "p"] C_check_talk := by
  obtain ⟨f, fd, F, hm, b⟩ := T.d_check_talk
  exact ⟨f, fd, hm, F.kp, b, okD (W := W_check_talk) (k := 2) F sc_check_talk (fun cdv A outer s H E hr => jss_cons (js_if (jt_cmp (op_neD hr.units) opl_ne (je_callB call_len cbl_len (by rfl) T.n_len bt_len (ja_cons (je_var 2) (ja_nil))) (je_var 0) (nomark _)) (jss_one (js_raise (c := "TalkError") (fs := ["step"]) rfl takesD G_TalkError (by rfl) (hr.mono (by decide)) (ja_cons (je_str) (ja_nil)))) (jss_nil)) (jss_cons (js_if (jt_not (jt_val (je_callB (cr_all rfl) cbl_all (by rfl) T.n_all bt_all (ja_cons (je_lc (own := [("number", 5)]) rfl sc_check_talk.nd (ji_list (je_var 2)) (blkOk_by (N := ["many", "rounds", "throws", "polynomials", "p", "number"]) (sc := defScope s_check_talk) (by decide +kernel)) (fun _ _ _ _ _ => jg_name (js := [5]) 5 (by decide) sc_check_talk.nd rfl (Or.inl rfl)) (fun _ _ _ _ _ => jts_nil) (fun _ _ _ _ _ => je_callO G_is_number takes0 (hr.mono (by decide)) (by rfl) (ja_cons (je_var 5) (ja_cons (je_var 4) (ja_nil))) 2)) (ja_nil))))) (jss_one (js_raise (c := "TalkError") (fs := ["step"]) rfl takesD G_TalkError (by rfl) (hr.mono (by decide)) (ja_cons (je_str) (ja_nil)))) (jss_nil)) (jss_one (js_if (jt_cmp (op_neD hr.units) opl_ne (je_callB call_len cbl_len (by rfl) T.n_len bt_len (ja_cons (je_var 3) (ja_nil))) (je_var 1) (nomark _)) (jss_one (js_raise (c := "TalkError") (fs := ["step"]) rfl takesD G_TalkError (by rfl) (hr.mono (by decide)) (ja_cons (je_str) (ja_nil)))) (jss_nil))))) rd_check_talk⟩
theorem ok_ask_product {P : Program} {w : World} {K : PySem.W.Frag} {mg : Str → Option Value} {base : Heap} (T : Txt K mg) (G_M_SumAsker_throw : OkM P w K base mg "SumAsker" "throw" 6 ["self", "number"] C_SumAsker_throw) (G_M_ProductTurn_accept_pair : OkM P w K base mg "ProductTurn" "accept_pair" 3 ["self", "values"] C_ProductTurn_accept_pair) (G_M_SumAsker_accept : OkM P w K base mg "SumAsker" "accept" 3 ["self", "values"] C_SumAsker_accept) : Ok P w K mg base "ask_product" 7 ["turn", "polynomials", "pair", "throws"] C_ask_product := by
  obtain ⟨f, fd, F, hm, b⟩ := T.d_ask_product
  exact ⟨f, fd, hm, F.kp, b, okD (W := (W_ask_product flT)) (k := 6) F sc_ask_product (fun cdv A outer s H E hr => jss_cons (js_for passD rfl (ji_enumerate (by rfl) T.n_enumerate (ja_cons (je_var 3) (ja_nil))) (jg_tup (js := [4, 5]) [4, 5] rfl (by decide) (pgs_cons (pg_name (i := 4) sc_ask_product.nd rfl (Or.inl rfl)) (pgs_cons (pg_name (i := 5) sc_ask_product.nd rfl (Or.inl rfl)) (pgs_nil)))) (jss_cons (js_if (jt_not (jt_val (je_meth (mn := "accept") (lv := 3) (n := 1) (tab := [("SumAsker", C_SumAsker_accept)]) (okMs_cons G_M_SumAsker_accept rfl (by decide) okMs_nil) takesD (hr.mono (by decide)) (je_fld (f_sums_fl T) (je_var 0)) (ja_cons (je_ix (je_var 1) (je_var 4)) (ja_nil))))) (jss_one (js_ret (je_var 4))) (jss_nil)) (jss_one (js_expr (je_meth (mn := "throw") (lv := 6) (n := 1) (tab := [("SumAsker", C_SumAsker_throw)]) (okMs_cons G_M_SumAsker_throw rfl (by decide) okMs_nil) takesD (hr.mono (by decide)) (je_fld (f_sums_fl T) (je_var 0)) (ja_cons (je_var 5) (ja_nil))))))) (jss_one (js_ret (je_ifExp (jt_val (je_meth (mn := "accept_pair") (lv := 3) (n := 1) (tab := [("ProductTurn", C_ProductTurn_accept_pair)]) (okMs_cons G_M_ProductTurn_accept_pair rfl (by decide) okMs_nil) takesD (hr.mono (by decide)) (je_var 0) (ja_cons (je_var 2) (ja_nil)))) (je_non) (je_str))))) (rd_ask_product fl_ProductTurn)⟩
theorem ok_judge_product {P : Program} {w : World} {K : PySem.W.Frag} {mg : Str → Option Value} {base : Heap} (T : Txt K mg) (G_check_sizes : Ok P w K mg base "check_sizes" 5 ["sizes", "p"] C_check_sizes) (G_check_matrix : Ok P w K mg base "check_matrix" 3 ["table", "bits", "p"] C_check_matrix) (G_check_talk : Ok P w K mg base "check_talk" 3 ["many", "rounds", "throws", "polynomials", "p"] C_check_talk) (G_I_ProductTurn : OkI P w K mg base "ProductTurn" 3 ["self", "p", "sizes", "point", "claim"] C_ProductTurn_init) (G_ask_product : Ok P w K mg base "ask_product" 7 ["turn", "polynomials", "pair", "throws"] C_ask_product) (G_product_throws : Ok P w K mg base "product_throws" 1 ["sizes"] C_product_throws) (G_value_at : Ok P w K mg base "value_at" 2 ["table", "point", "p"] C_value_at) : Ok P w K mg base "judge_product" 8 ["left", "right", "claimed", "sizes", "throws", "told", "p"] C_judge_product := by
  obtain ⟨f, fd, F, hm, b⟩ := T.d_judge_product
  exact ⟨f, fd, hm, F.kp, b, okDQ (W := (W_judge_product flT)) (k := 7) F sc_judge_product (fun cdv A outer s H E hr => jss_cons (js_asg (je_var 3) (jg_tup (js := [7, 8, 9]) [7, 8, 9] rfl (by decide) (pgs_cons (pg_name (i := 7) sc_judge_product.nd rfl (Or.inl rfl)) (pgs_cons (pg_name (i := 8) sc_judge_product.nd rfl (Or.inl rfl)) (pgs_cons (pg_name (i := 9) sc_judge_product.nd rfl (Or.inl rfl)) (pgs_nil)))))) (jss_cons (js_expr (je_callO G_check_sizes takesD (hr.mono (by decide)) (by rfl) (ja_cons (je_var 3) (ja_cons (je_var 6) (ja_nil))) 2)) (jss_cons (js_expr (je_callO G_check_matrix takesD (hr.mono (by decide)) (by rfl) (ja_cons (je_var 0) (ja_cons (je_op op_addAll opl_add (je_var 7) (je_var 8)) (ja_cons (je_var 6) (ja_nil)))) 3)) (jss_cons (js_expr (je_callO G_check_matrix takesD (hr.mono (by decide)) (by rfl) (ja_cons (je_var 1) (ja_cons (je_op op_addAll opl_add (je_var 8) (je_var 9)) (ja_cons (je_var 6) (ja_nil)))) 3)) (jss_cons (js_expr (je_callO G_check_matrix takesD (hr.mono (by decide)) (by rfl) (ja_cons (je_var 2) (ja_cons (je_op op_addAll opl_add (je_var 7) (je_var 9)) (ja_cons (je_var 6) (ja_nil)))) 3)) (jss_cons (js_expr (je_callO G_check_talk takesD (hr.mono (by decide)) (by rfl) (ja_cons (je_callO G_product_throws takesD (hr.mono (by decide)) (by rfl) (ja_cons (je_var 3) (ja_nil)) 1) (ja_cons (je_var 8) (ja_cons (je_var 4) (ja_cons (je_ix (je_var 5) (je_int)) (ja_cons (je_var 6) (ja_nil)))))) 5)) (jss_cons (js_set 10 sc_judge_product.nd rfl (Or.inl rfl) (je_sl (je_var 4) (jo_none) (jo_some (je_op op_addAll opl_add (je_var 7) (je_var 9))))) (jss_cons (js_set 11 sc_judge_product.nd rfl (Or.inl rfl) (je_make G_I_ProductTurn takesD (hr.mono (by decide)) (by rfl) (ja_cons (je_var 6) (ja_cons (je_var 3) (ja_cons (je_var 10) (ja_cons (je_callO G_value_at takesD (hr.mono (by decide)) (by rfl) (ja_cons (je_var 2) (ja_cons (je_var 10) (ja_cons (je_var 6) (ja_nil)))) 3) (ja_nil))))) 4)) (jss_cons (js_set 12 sc_judge_product.nd rfl (Or.inl rfl) (je_callO G_ask_product takesD (hr.mono (by decide)) (by rfl) (ja_cons (je_var 11) (ja_cons (je_ix (je_var 5) (je_int)) (ja_cons (je_ix (je_var 5) (je_int)) (ja_cons (je_sl (je_var 4) (jo_some (je_op op_addAll opl_add (je_var 7) (je_var 9))) (jo_none)) (ja_nil))))) 4)) (jss_cons (js_if (jt_cmp op_notN opl_notN (je_var 12) (je_non) (nomark _)) (jss_one (js_ret (je_tup (ja_cons (je_str) (ja_cons (je_var 12) (ja_nil)))))) (jss_nil)) (jss_cons (js_for passD rfl (ji_enumT (by rfl) T.n_enumerate (ja_cons (je_tup (ja_cons (je_var 0) (ja_cons (je_var 1) (ja_nil)))) (ja_nil))) (jg_tup (js := [13, 14]) [13, 14] rfl (by decide) (pgs_cons (pg_name (i := 13) sc_judge_product.nd rfl (Or.inl rfl)) (pgs_cons (pg_name (i := 14) sc_judge_product.nd rfl (Or.inl rfl)) (pgs_nil)))) (jss_one (js_if (jt_cmp (op_neD hr.units) opl_ne (je_callO G_value_at takesD (hr.mono (by decide)) (by rfl) (ja_cons (je_var 14) (ja_cons (je_ix (je_fld (f_points_fl T) (je_var 11)) (je_var 13)) (ja_cons (je_var 6) (ja_nil)))) 3) (je_ix (je_fld (f_claims_fl T) (je_var 11)) (je_var 13)) (nomark _)) (jss_one (js_ret (je_tup (ja_cons (je_str) (ja_cons (je_ix (je_tup (ja_cons (je_str) (ja_cons (je_str) (ja_nil)))) (je_var 13)) (ja_nil)))))) (jss_nil)))) (jss_one (js_ret (je_tup (ja_cons (je_str) (ja_nil)))))))))))))))) (rd_judge_product fl_ProductTurn)⟩
theorem ok_round_agreement {P : Program} {w : World} {K : PySem.W.Frag} {mg : Str → Option Value} {base : Heap} (T : Txt K mg) (G_M_ProductAnswerer_poly : OkM P w K base mg "ProductAnswerer" "poly" 2 ["self"] C_ProductAnswerer_poly) (G_M_SumAsker_throw : OkM P w K base mg "SumAsker" "throw" 6 ["self", "number"] C_SumAsker_throw) (G_M_ProductAnswerer_throw : OkM P w K base mg "ProductAnswerer" "throw" 2 ["self", "number"] C_ProductAnswerer_throw) (G_same : Ok P w K mg base "same" 6 ["values", "others", "p"] C_same) (G_value : Ok P w K mg base "value" 5 ["values", "t", "p"] C_value) : Ok P w K mg base "round_agreement" 7 ["answerer", "polynomials", "throws", "p"] C_round_agreement := by
  obtain ⟨f, fd, F, hm, b⟩ := T.d_round_agreement
  exact ⟨f, fd, hm, F.kp, b, okD (W := W_round_agreement) (k := 6) F sc_round_agreement (fun cdv A outer s H E hr => jss_cons (js_for passD rfl (ji_enumerate (by rfl) T.n_enumerate (ja_cons (je_var 2) (ja_nil))) (jg_tup (js := [4, 5]) [4, 5] rfl (by decide) (pgs_cons (pg_name (i := 4) sc_round_agreement.nd rfl (Or.inl rfl)) (pgs_cons (pg_name (i := 5) sc_round_agreement.nd rfl (Or.inl rfl)) (pgs_nil)))) (jss_cons (js_set 6 sc_round_agreement.nd rfl (Or.inl rfl) (je_meth0 (mn := "poly") (lv := 2) (tab := [("ProductAnswerer", C_ProductAnswerer_poly)]) (okMs_cons G_M_ProductAnswerer_poly rfl (by decide) okMs_nil) takesD (hr.mono (by decide)) (je_var 0))) (jss_cons (js_if (PW.pt (jw_and (jt_not (jt_val (je_callO G_same takesD (hr.mono (by decide)) (by rfl) (ja_cons (je_ix (je_var 1) (je_var 4)) (ja_cons (je_var 6) (ja_cons (je_var 3) (ja_nil)))) 3))) (jw_and1 (jt_cmp (op_eqD hr.units) opl_eq (je_callO G_value takesD (hr.mono (by decide)) (by rfl) (ja_cons (je_ix (je_var 1) (je_var 4)) (ja_cons (je_var 5) (ja_cons (je_var 3) (ja_nil)))) 3) (je_callO G_value takesD (hr.mono (by decide)) (by rfl) (ja_cons (je_var 6) (ja_cons (je_var 5) (ja_cons (je_var 3) (ja_nil)))) 3) (nomark _))))) (jss_one (js_ret (je_var 4))) (jss_nil)) (jss_one (js_expr (je_meth (mn := "throw") (lv := 6) (n := 1) (tab := [("SumAsker", C_SumAsker_throw), ("ProductAnswerer", C_ProductAnswerer_throw)]) (okMs_cons G_M_SumAsker_throw rfl (by decide) (okMs_cons G_M_ProductAnswerer_throw rfl (by decide) okMs_nil)) takesD (hr.mono (by decide)) (je_var 0) (ja_cons (je_var 5) (ja_nil)))))))) (jss_one (js_ret (je_non)))) rd_round_agreement⟩
theorem ok_blame_product {P : Program} {w : World} {K : PySem.W.Frag} {mg : Str → Option Value} {base : Heap} (T : Txt K mg) (G_multiply : Ok P w K mg base "multiply" 1 ["left", "right", "sizes", "p"] C_multiply) (G_I_ProductAnswerer : OkI P w K mg base "ProductAnswerer" 2 ["self", "p", "left", "right", "sizes", "point"] C_ProductAnswerer_init) (G_judge_product : Ok P w K mg base "judge_product" 8 ["left", "right", "claimed", "sizes", "throws", "told", "p"] C_judge_product) (G_value_at : Ok P w K mg base "value_at" 2 ["table", "point", "p"] C_value_at) (G_round_agreement : Ok P w K mg base "round_agreement" 7 ["answerer", "polynomials", "throws", "p"] C_round_agreement) : Ok P w K mg base "blame_product" 9 ["left", "right", "claimed", "sizes", "throws", "told", "p"] C_blame_product := by
  obtain ⟨f, fd, F, hm, b⟩ := T.d_blame_product
  exact ⟨f, fd, hm, F.kp, b, okDQ (W := W_blame_product) (k := 8) F sc_blame_product (fun cdv A outer s H E hr => jss_cons (js_if (jt_cmp (op_neD hr.units) opl_ne (je_callO G_judge_product takesD (hr.mono (by decide)) (by rfl) (ja_cons (je_var 0) (ja_cons (je_var 1) (ja_cons (je_var 2) (ja_cons (je_var 3) (ja_cons (je_var 4) (ja_cons (je_var 5) (ja_cons (je_var 6) (ja_nil)))))))) 7) (je_tup (ja_cons (je_str) (ja_nil))) (nomark _)) (jss_one (js_ret (je_non))) (jss_nil)) (jss_cons (js_set 7 sc_blame_product.nd rfl (Or.inl rfl) (je_callO G_multiply takesD (hr.mono (by decide)) (by rfl) (ja_cons (je_var 0) (ja_cons (je_var 1) (ja_cons (je_var 3) (ja_cons (je_var 6) (ja_nil))))) 4)) (jss_cons (js_if (jt_cmp (op_eqD hr.units) opl_eq (je_callTy call_list_of cbl_list (by rfl) T.n_list bt_list (ja_cons (je_var 2) (ja_nil))) (je_var 7) (nomark _)) (jss_one (js_ret (je_non))) (jss_nil)) (jss_cons (js_set 8 sc_blame_product.nd rfl (Or.inl rfl) (je_op op_addAll opl_add (je_ix (je_var 3) (je_int)) (je_ix (je_var 3) (je_int)))) (jss_cons (js_if (jt_cmp (op_eqD hr.units) opl_eq (je_callO G_value_at takesD (hr.mono (by decide)) (by rfl) (ja_cons (je_var 2) (ja_cons (je_sl (je_var 4) (jo_none) (jo_some (je_var 8))) (ja_cons (je_var 6) (ja_nil)))) 3) (je_callO G_value_at takesD (hr.mono (by decide)) (by rfl) (ja_cons (je_var 7) (ja_cons (je_sl (je_var 4) (jo_none) (jo_some (je_var 8))) (ja_cons (je_var 6) (ja_nil)))) 3) (nomark _)) (jss_one (js_ret (je_tup (ja_cons (je_str) (ja_nil))))) (jss_nil)) (jss_cons (js_set 9 sc_blame_product.nd rfl (Or.inl rfl) (je_make G_I_ProductAnswerer takesD (hr.mono (by decide)) (by rfl) (ja_cons (je_var 6) (ja_cons (je_var 0) (ja_cons (je_var 1) (ja_cons (je_var 3) (ja_cons (je_sl (je_var 4) (jo_none) (jo_some (je_var 8))) (ja_nil)))))) 5)) (jss_one (js_ret (je_tup (ja_cons (je_str) (ja_cons (je_callO G_round_agreement takesD (hr.mono (by decide)) (by rfl) (ja_cons (je_var 9) (ja_cons (je_ix (je_var 5) (je_int)) (ja_cons (je_sl (je_var 4) (jo_some (je_var 8)) (jo_none)) (ja_cons (je_var 6) (ja_nil))))) 4) (ja_nil)))))))))))) rd_blame_product⟩
theorem ok__law_state {P : Program} {w : World} {K : PySem.W.Frag} {mg : Str → Option Value} {base : Heap} (T : Txt K mg) : Ok P w K mg base "_law_state" 1 ["_law_script"] C_state := by
  obtain ⟨f, fd, F, hm, b⟩ := T.d__law_state
  exact state_close ⟨f, fd, hm, F.kp, b, okD (C := C_stateO) (W := W_state) (k := 0) F sc__law_state (fun cdv A outer s H E hr => jss_cons (js_set 1 sc__law_state.nd rfl (Or.inl rfl) (je_int)) (jss_cons (js_for passD rfl (ji_list (je_var 0)) (jg_name (js := [2]) 2 (by decide) sc__law_state.nd rfl (Or.inl rfl)) (jss_one (js_set 1 sc__law_state.nd rfl (Or.inl rfl) (je_op op_mod opl_mod (je_callTy call_int1 cbl_int (by rfl) T.n_int bt_int (ja_cons (je_op op_addAll opl_add (je_op op_mulC opl_mul (je_var 1) (je_int)) (je_var 2)) (ja_nil))) (je_int))))) (jss_one (js_ret (je_lstM (ja_cons (je_lcM (own := [("_law_cell", 2)]) rfl sc__law_state.nd (ji_list (je_var 0)) (blkOk_by (N := ["_law_script", "_law_seed", "_law_cell"]) (sc := defScope s__law_state) (by decide +kernel)) (fun _ _ _ _ _ => jg_name (js := [2]) 2 (by decide) sc__law_state.nd rfl (Or.inl rfl)) (fun _ _ _ _ _ => jts_nil) (fun _ _ _ _ _ => je_callB call_abs cbl_abs (by rfl) T.n_abs bt_abs (ja_cons (je_var 2) (ja_nil)))) (ja_cons (je_op op_addAll opl_add (je_var 1) (je_int)) (ja_nil)))))))) rd_state⟩
theorem ok__law_draw {P : Program} {w : World} {K : PySem.W.Frag} {mg : Str → Option Value} {base : Heap} (T : Txt K mg) : Ok P w K mg base "_law_draw" 1 ["_law_state_here", "_law_many"] C_drawX := by
  obtain ⟨f, fd, F, hm, b⟩ := T.d__law_draw
  exact draw_closeX ⟨f, fd, hm, F.kp, b, okD (C := C_drawOX) (W := W_draw2) (k := 0) F sc__law_draw (fun cdv A outer s H E hr => jss_cons (js_if (jt_cmp op_lt opl_lt (je_var 1) (je_int) (nomark _)) (jss_one (js_ret (je_int))) (jss_nil)) (jss_cons (js_set 2 sc__law_draw.nd rfl (Or.inl rfl) (je_ix (je_var 0) (je_int))) (jss_cons (js_while passD (PW.pt (jw_and (jt_cmp op_gt opl_gt (je_callB call_len cbl_len (by rfl) T.n_len bt_len (ja_cons (je_var 2) (ja_nil))) (je_int) (nomark _)) (jw_and1 (jt_cmp (op_eqD hr.units) opl_eq (je_ix (je_var 2) (je_int)) (je_int) (nomark _))))) (jss_one (js_expr (je_mL PySem.F.slot_list_pop PySem.F.type_list_pop mt_popAt mtl_popAt (je_var 2) (ja_cons (je_int) (ja_nil)))))) (jss_cons (js_if (jt_cmp op_gt opl_gt (je_callB call_len cbl_len (by rfl) T.n_len bt_len (ja_cons (je_var 2) (ja_nil))) (je_int) (nomark _)) (jss_cons (js_set 4 sc__law_draw.nd rfl (Or.inl rfl) (je_ix (je_var 2) (je_int))) (jss_cons (js_setIx (je_op op_fdivW opl_div (je_var 4) (je_var 1)) (je_var 2) (je_int) (pg_sub (je_var 2) (je_int) set_list)) (jss_one (js_ret (je_op op_mod opl_mod (je_callTy call_int1 cbl_int (by rfl) T.n_int bt_int (ja_cons (je_var 4) (ja_nil))) (je_var 1)))))) (jss_nil)) (jss_cons (js_set 3 sc__law_draw.nd rfl (Or.inl rfl) (je_op op_mod opl_mod (je_callTy call_int1 cbl_int (by rfl) T.n_int bt_int (ja_cons (je_op op_addAll opl_add (je_op op_mulC opl_mul (je_ix (je_var 0) (je_int)) (je_int)) (je_int)) (ja_nil))) (je_int))) (jss_cons (js_setIx (je_var 3) (je_var 0) (je_int) (pg_sub (je_var 0) (je_int) set_list)) (jss_one (js_ret (je_op op_mod opl_mod (je_callTy call_int1 cbl_int (by rfl) T.n_int bt_int (ja_cons (je_op op_fdivW opl_div (je_var 3) (je_int)) (ja_nil))) (je_var 1)))))))))) rd_draw2X⟩
theorem ok__law_pick {P : Program} {w : World} {K : PySem.W.Frag} {mg : Str → Option Value} {base : Heap} (T : Txt K mg) (G__law_draw : Ok P w K mg base "_law_draw" 1 ["_law_state_here", "_law_many"] C_drawX) : Ok P w K mg base "_law_pick" 2 ["_law_state_here", "_law_row"] C_pick := by
  obtain ⟨f, fd, F, hm, b⟩ := T.d__law_pick
  exact ⟨f, fd, hm, F.kp, b, okD (W := W_pick) (k := 1) F sc__law_pick (fun cdv A outer s H E hr => jss_one (js_ret (je_ix (je_var 1) (je_callO G__law_draw.drawL takesD (hr.mono (by decide)) (by rfl) (ja_cons (je_var 0) (ja_cons (je_callB call_len cbl_len (by rfl) T.n_len bt_len (ja_cons (je_var 1) (ja_nil))) (ja_nil))) 2)))) rd_pick⟩
theorem ok__law_corner {P : Program} {w : World} {K : PySem.W.Frag} {mg : Str → Option Value} {base : Heap} (T : Txt K mg) : Ok P w K mg base "_law_corner" 1 ["_law_index", "_law_bits"] C__law_corner := by
  obtain ⟨f, fd, F, hm, b⟩ := T.d__law_corner
  exact ⟨f, fd, hm, F.kp, b, okD (W := W__law_corner) (k := 0) F sc__law_corner (fun cdv A outer s H E hr => jss_one (js_ret (je_lc (own := [("_law_k", 2)]) rfl sc__law_corner.nd (ji_range1 (by rfl) T.n_range (ja_cons (je_var 1) (ja_nil))) (blkOk_by (N := ["_law_index", "_law_bits", "_law_k"]) (sc := defScope s__law_corner) (by decide +kernel)) (fun _ _ _ _ _ => jg_name (js := [2]) 2 (by decide) sc__law_corner.nd rfl (Or.inl rfl)) (fun _ _ _ _ _ => jts_nil) (fun _ _ _ _ _ => je_op op_mod opl_mod (je_callTy call_int1 cbl_int (by rfl) T.n_int bt_int (ja_cons (je_op op_fdivW opl_div (je_var 0) (je_op op_shl opl_shl (je_int) (je_var 2))) (ja_nil))) (je_int))))) rd__law_corner⟩
theorem ok__law_near {P : Program} {w : World} {K : PySem.W.Frag} {mg : Str → Option Value} {base : Heap} (T : Txt K mg) : Ok P w K mg base "_law_near" 1 ["_law_one", "_law_two", "_law_p"] C__law_near__2 := by
  obtain ⟨f, fd, F, hm, b⟩ := T.d__law_near
  exact ⟨f, fd, hm, F.kp, b, okD (W := W__law_near__2) (k := 0) F sc__law_near (fun cdv A outer s H E hr => jss_cons (js_set 3 sc__law_near.nd rfl (Or.inl rfl) (je_int)) (jss_cons (js_for passD rfl (ji_range1 (by rfl) T.n_range (ja_cons (je_callB call_len cbl_len (by rfl) T.n_len bt_len (ja_cons (je_var 0) (ja_nil))) (ja_nil))) (jg_name (js := [4]) 4 (by decide) sc__law_near.nd rfl (Or.inl rfl)) (jss_one (js_set 3 sc__law_near.nd rfl (Or.inl rfl) (je_op op_mod opl_mod (je_callTy call_int1 cbl_int (by rfl) T.n_int bt_int (ja_cons (je_op op_mulC opl_mul (je_var 3) (je_op op_addAll opl_add (je_op op_mulC opl_mul (je_ix (je_var 0) (je_var 4)) (je_ix (je_var 1) (je_var 4))) (je_op op_mulC opl_mul (je_op op_sub opl_sub (je_int) (je_ix (je_var 0) (je_var 4))) (je_op op_sub opl_sub (je_int) (je_ix (je_var 1) (je_var 4)))))) (ja_nil))) (je_var 2))))) (jss_one (js_ret (je_var 3))))) rd__law_near__2⟩
theorem ok__law_value {P : Program} {w : World} {K : PySem.W.Frag} {mg : Str → Option Value} {base : Heap} (T : Txt K mg) (G__law_near : Ok P w K mg base "_law_near" 1 ["_law_one", "_law_two", "_law_p"] C__law_near__2) (G__law_corner : Ok P w K mg base "_law_corner" 1 ["_law_index", "_law_bits"] C__law_corner) : Ok P w K mg base "_law_value" 2 ["_law_table_here", "_law_point", "_law_p"] C__law_value := by
  obtain ⟨f, fd, F, hm, b⟩ := T.d__law_value
  exact ⟨f, fd, hm, F.kp, b, okD (W := W__law_value) (k := 1) F sc__law_value (fun cdv A outer s H E hr => jss_cons (js_set 3 sc__law_value.nd rfl (Or.inl rfl) (je_int)) (jss_cons (js_for passD rfl (ji_range1 (by rfl) T.n_range (ja_cons (je_callB call_len cbl_len (by rfl) T.n_len bt_len (ja_cons (je_var 0) (ja_nil))) (ja_nil))) (jg_name (js := [4]) 4 (by decide) sc__law_value.nd rfl (Or.inl rfl)) (jss_one (js_set 3 sc__law_value.nd rfl (Or.inl rfl) (je_op op_addAll opl_add (je_var 3) (je_op op_mulC opl_mul (je_ix (je_var 0) (je_var 4)) (je_callO G__law_near takesD (hr.mono (by decide)) (by rfl) (ja_cons (je_callO G__law_corner takesD (hr.mono (by decide)) (by rfl) (ja_cons (je_var 4) (ja_cons (je_callB call_len cbl_len (by rfl) T.n_len bt_len (ja_cons (je_var 1) (ja_nil))) (ja_nil))) 2) (ja_cons (je_var 1) (ja_cons (je_var 2) (ja_nil)))) 3)))))) (jss_one (js_ret (je_op op_mod opl_mod (je_callTy call_int1 cbl_int (by rfl) T.n_int bt_int (ja_cons (je_var 3) (ja_nil))) (je_var 2)))))) rd__law_value⟩
theorem ok__law_times {P : Program} {w : World} {K : PySem.W.Frag} {mg : Str → Option Value} {base : Heap} (T : Txt K mg) : Ok P w K mg base "_law_times" 1 ["_law_left", "_law_right", "_law_sizes", "_law_p"] (orC C__law_times C__law_timesM) := by
  obtain ⟨f, fd, F, hm, b⟩ := T.d__law_times
  exact ⟨f, fd, hm, F.kp, b, FnOk_or (okDQ (C := C__law_times) (W := W__law_times) (k := 0) F sc__law_times (fun cdv A outer s H E hr => jss_cons (js_asg (je_var 2) (jg_tup (js := [4, 5, 6]) [4, 5, 6] rfl (by decide) (pgs_cons (pg_name (i := 4) sc__law_times.nd rfl (Or.inl rfl)) (pgs_cons (pg_name (i := 5) sc__law_times.nd rfl (Or.inl rfl)) (pgs_cons (pg_name (i := 6) sc__law_times.nd rfl (Or.inl rfl)) (pgs_nil)))))) (jss_cons (js_setLcM (own := [("_law_k", 10)]) 7 rfl sc__law_times.nd rfl rfl (sw_true rfl rfl rfl (by decide +kernel)) (ji_range1 (by rfl) T.n_range (ja_cons (je_op op_shl opl_shl (je_int) (je_op op_addAll opl_add (je_var 4) (je_var 6))) (ja_nil))) (blkOk_by (N := ["_law_left", "_law_right", "_law_sizes", "_law_p", "_law_a", "_law_b", "_law_c", "_law_found", "_law_i", "_law_j", "_law_k", "_law_total"]) (sc := defScope s__law_times) (by decide +kernel)) (fun _ _ _ _ _ => jg_name (js := [10]) 10 (by decide) sc__law_times.nd rfl (Or.inl rfl)) (fun _ _ _ _ _ => jts_nil) (fun _ _ _ _ _ => je_int)) (jss_cons (js_for passD rfl (ji_range1 (by rfl) T.n_range (ja_cons (je_op op_shl opl_shl (je_int) (je_var 4)) (ja_nil))) (jg_name (js := [8]) 8 (by decide) sc__law_times.nd rfl (Or.inl rfl)) (jss_one (js_for passD rfl (ji_range1 (by rfl) T.n_range (ja_cons (je_op op_shl opl_shl (je_int) (je_var 6)) (ja_nil))) (jg_name (js := [9]) 9 (by decide) sc__law_times.nd rfl (Or.inl rfl)) (jss_cons (js_set 11 sc__law_times.nd rfl (Or.inl rfl) (je_int)) (jss_cons (js_for passD rfl (ji_range1 (by rfl) T.n_range (ja_cons (je_op op_shl opl_shl (je_int) (je_var 5)) (ja_nil))) (jg_name (js := [10]) 10 (by decide) sc__law_times.nd rfl (Or.inl rfl)) (jss_one (js_set 11 sc__law_times.nd rfl (Or.inl rfl) (je_op op_addAll opl_add (je_var 11) (je_op op_mulC opl_mul (je_ix (je_var 0) (je_op op_addAll opl_add (je_var 8) (je_op op_mulC opl_mul (je_op op_shl opl_shl (je_int) (je_var 4)) (je_var 10)))) (je_ix (je_var 1) (je_op op_addAll opl_add (je_var 10) (je_op op_mulC opl_mul (je_op op_shl opl_shl (je_int) (je_var 5)) (je_var 9))))))))) (jss_one (js_setIx (je_op op_mod opl_mod (je_callTy call_int1 cbl_int (by rfl) T.n_int bt_int (ja_cons (je_var 11) (ja_nil))) (je_var 3)) (je_var 7) (je_op op_addAll opl_add (je_var 8) (je_op op_mulC opl_mul (je_op op_shl opl_shl (je_int) (je_var 4)) (je_var 9))) (pg_sub (je_var 7) (je_op op_addAll opl_add (je_var 8) (je_op op_mulC opl_mul (je_op op_shl opl_shl (je_int) (je_var 4)) (je_var 9))) set_list)))))))) (jss_one (js_ret (je_var 7)))))) rd__law_times) (okD (C := C__law_timesM) (W := W__law_times) (k := 0) F sc__law_times (fun cdv A outer s H E hr => jss_cons (js_asg (je_var 2) (jg_tup (js := [4, 5, 6]) [4, 5, 6] rfl (by decide) (pgs_cons (pg_name (i := 4) sc__law_times.nd rfl (Or.inl rfl)) (pgs_cons (pg_name (i := 5) sc__law_times.nd rfl (Or.inl rfl)) (pgs_cons (pg_name (i := 6) sc__law_times.nd rfl (Or.inl rfl)) (pgs_nil)))))) (jss_cons (js_setLcM (own := [("_law_k", 10)]) 7 rfl sc__law_times.nd rfl rfl (sw_true rfl rfl rfl (by decide +kernel)) (ji_range1 (by rfl) T.n_range (ja_cons (je_op op_shl opl_shl (je_int) (je_op op_addAll opl_add (je_var 4) (je_var 6))) (ja_nil))) (blkOk_by (N := ["_law_left", "_law_right", "_law_sizes", "_law_p", "_law_a", "_law_b", "_law_c", "_law_found", "_law_i", "_law_j", "_law_k", "_law_total"]) (sc := defScope s__law_times) (by decide +kernel)) (fun _ _ _ _ _ => jg_name (js := [10]) 10 (by decide) sc__law_times.nd rfl (Or.inl rfl)) (fun _ _ _ _ _ => jts_nil) (fun _ _ _ _ _ => je_int)) (jss_cons (js_for passD rfl (ji_range1 (by rfl) T.n_range (ja_cons (je_op op_shl opl_shl (je_int) (je_var 4)) (ja_nil))) (jg_name (js := [8]) 8 (by decide) sc__law_times.nd rfl (Or.inl rfl)) (jss_one (js_for passD rfl (ji_range1 (by rfl) T.n_range (ja_cons (je_op op_shl opl_shl (je_int) (je_var 6)) (ja_nil))) (jg_name (js := [9]) 9 (by decide) sc__law_times.nd rfl (Or.inl rfl)) (jss_cons (js_set 11 sc__law_times.nd rfl (Or.inl rfl) (je_int)) (jss_cons (js_for passD rfl (ji_range1 (by rfl) T.n_range (ja_cons (je_op op_shl opl_shl (je_int) (je_var 5)) (ja_nil))) (jg_name (js := [10]) 10 (by decide) sc__law_times.nd rfl (Or.inl rfl)) (jss_one (js_set 11 sc__law_times.nd rfl (Or.inl rfl) (je_op op_addAll opl_add (je_var 11) (je_op op_mulC opl_mul (je_ix (je_var 0) (je_op op_addAll opl_add (je_var 8) (je_op op_mulC opl_mul (je_op op_shl opl_shl (je_int) (je_var 4)) (je_var 10)))) (je_ix (je_var 1) (je_op op_addAll opl_add (je_var 10) (je_op op_mulC opl_mul (je_op op_shl opl_shl (je_int) (je_var 5)) (je_var 9))))))))) (jss_one (js_setIx (je_op op_mod opl_mod (je_callTy call_int1 cbl_int (by rfl) T.n_int bt_int (ja_cons (je_var 11) (ja_nil))) (je_var 3)) (je_var 7) (je_op op_addAll opl_add (je_var 8) (je_op op_mulC opl_mul (je_op op_shl opl_shl (je_int) (je_var 4)) (je_var 9))) (pg_sub (je_var 7) (je_op op_addAll opl_add (je_var 8) (je_op op_mulC opl_mul (je_op op_shl opl_shl (je_int) (je_var 4)) (je_var 9))) set_list)))))))) (jss_one (js_ret (je_var 7)))))) rd__law_timesM)⟩
theorem ok__law_table {P : Program} {w : World} {K : PySem.W.Frag} {mg : Str → Option Value} {base : Heap} (T : Txt K mg) (G__law_pick : Ok P w K mg base "_law_pick" 2 ["_law_state_here", "_law_row"] C_pick) (G__law_draw : Ok P w K mg base "_law_draw" 1 ["_law_state_here", "_law_many"] C_drawX) : Ok P w K mg base "_law_table" 3 ["_law_state_here", "_law_bits", "_law_p"] C__law_table := by
  obtain ⟨f, fd, F, hm, b⟩ := T.d__law_table
  exact ⟨f, fd, hm, F.kp, b, okD (W := W__law_table) (k := 2) F sc__law_table (fun cdv A outer s H E hr => jss_cons (js_set 3 sc__law_table.nd rfl (Or.inr rfl) (je_callO G__law_pick takesD (hr.mono (by decide)) (by rfl) (ja_cons (je_var 0) (ja_cons (je_lst (ja_cons (je_int) (ja_cons (je_var 2) (ja_nil)))) (ja_nil))) 2)) (jss_one (js_ret (je_lc (own := [("_law_k", 4)]) rfl sc__law_table.nd (ji_range1 (by rfl) T.n_range (ja_cons (je_op op_shl opl_shl (je_int) (je_var 1)) (ja_nil))) (blkOk_by (N := ["_law_state_here", "_law_bits", "_law_p", "_law_most", "_law_k"]) (sc := defScope s__law_table) (by decide +kernel)) (fun _ _ _ _ _ => jg_name (js := [4]) 4 (by decide) sc__law_table.nd rfl (Or.inl rfl)) (fun _ _ _ _ _ => jts_nil) (fun _ _ _ _ _ => je_callO G__law_draw.drawL takes0 (hr.mono (by decide)) (by rfl) (ja_cons (je_var 0) (ja_cons (je_var 3) (ja_nil))) 2))))) rd__law_table⟩
theorem ok__law_at {P : Program} {w : World} {K : PySem.W.Frag} {mg : Str → Option Value} {base : Heap} (T : Txt K mg) : Ok P w K mg base "_law_at" 1 ["_law_values", "_law_t", "_law_p"] C__law_at := by
  obtain ⟨f, fd, F, hm, b⟩ := T.d__law_at
  exact ⟨f, fd, hm, F.kp, b, okD (W := W__law_at) (k := 0) F sc__law_at (fun cdv A outer s H E hr => jss_cons (js_asg (je_var 0) (jg_unl (js := [3, 4, 5]) [3, 4, 5] rfl (by decide) (pgs_cons (pg_name (i := 3) sc__law_at.nd rfl (Or.inl rfl)) (pgs_cons (pg_name (i := 4) sc__law_at.nd rfl (Or.inl rfl)) (pgs_cons (pg_name (i := 5) sc__law_at.nd rfl (Or.inl rfl)) (pgs_nil)))))) (jss_cons (js_set 6 sc__law_at.nd rfl (Or.inl rfl) (je_op op_fdivW opl_div (je_op op_addAll opl_add (je_var 2) (je_int)) (je_int))) (jss_cons (js_set 7 sc__law_at.nd rfl (Or.inl rfl) (je_op op_addAll opl_add (je_op op_sub opl_sub (je_op op_mulC opl_mul (je_op op_mulC opl_mul (je_op op_mulC opl_mul (je_var 3) (je_op op_sub opl_sub (je_var 1) (je_int))) (je_op op_sub opl_sub (je_var 1) (je_int))) (je_var 6)) (je_op op_mulC opl_mul (je_op op_mulC opl_mul (je_var 4) (je_var 1)) (je_op op_sub opl_sub (je_var 1) (je_int)))) (je_op op_mulC opl_mul (je_op op_mulC opl_mul (je_op op_mulC opl_mul (je_var 5) (je_var 1)) (je_op op_sub opl_sub (je_var 1) (je_int))) (je_var 6)))) (jss_one (js_ret (je_op op_mod opl_mod (je_callTy call_int1 cbl_int (by rfl) T.n_int bt_int (ja_cons (je_var 7) (ja_nil))) (je_var 2))))))) rd__law_at⟩
theorem ok__law_inverse {P : Program} {w : World} {K : PySem.W.Frag} {mg : Str → Option Value} {base : Heap} (T : Txt K mg) : Ok P w K mg base "_law_inverse" 1 ["_law_number", "_law_p"] C__law_inverse := by
  obtain ⟨f, fd, F, hm, b⟩ := T.d__law_inverse
  exact ⟨f, fd, hm, F.kp, b, okD (W := W__law_inverse) (k := 0) F sc__law_inverse (fun cdv A outer s H E hr => jss_one (js_ret (je_ix (je_lc (own := [("_law_k", 2)]) rfl sc__law_inverse.nd (ji_range2 (by rfl) T.n_range (ja_cons (je_int) (ja_cons (je_var 1) (ja_nil)))) (blkOk_by (N := ["_law_number", "_law_p", "_law_k"]) (sc := defScope s__law_inverse) (by decide +kernel)) (fun _ _ _ _ _ => jg_name (js := [2]) 2 (by decide) sc__law_inverse.nd rfl (Or.inl rfl)) (fun _ _ _ _ _ => jts_one (jt_cmp (op_eqD hr.units) opl_eq (je_op op_mod opl_mod (je_callTy call_int1 cbl_int (by rfl) T.n_int bt_int (ja_cons (je_op op_mulC opl_mul (je_var 2) (je_var 0)) (ja_nil))) (je_var 1)) (je_int) (nomark _))) (fun _ _ _ _ _ => je_var 2)) (je_int)))) rd__law_inverse⟩
theorem ok__law_bluff {P : Program} {w : World} {K : PySem.W.Frag} {mg : Str → Option Value} {base : Heap} (T : Txt K mg) (G__law_draw : Ok P w K mg base "_law_draw" 1 ["_law_state_here", "_law_many"] C_drawX) (G__law_inverse : Ok P w K mg base "_law_inverse" 1 ["_law_number", "_law_p"] C__law_inverse) : Ok P w K mg base "_law_bluff" 2 ["_law_state_here", "_law_mine", "_law_claim", "_law_guess", "_law_p"] C__law_bluff := by
  obtain ⟨f, fd, F, hm, b⟩ := T.d__law_bluff
  exact ⟨f, fd, hm, F.kp, b, okDQ (W := W__law_bluff) (k := 1) F sc__law_bluff (fun cdv A outer s H E hr => jss_cons (js_set 5 sc__law_bluff.nd rfl (Or.inl rfl) (je_op op_mod opl_mod (je_callTy call_int1 cbl_int (by rfl) T.n_int bt_int (ja_cons (je_op op_sub opl_sub (je_op op_sub opl_sub (je_var 2) (je_ix (je_var 1) (je_int))) (je_ix (je_var 1) (je_int))) (ja_nil))) (je_var 4))) (jss_cons (js_if (PW.pt (jw_and (jt_cmp (op_eqD hr.units) opl_eq (je_var 5) (je_int) (nomark _)) (jw_and1 (jt_cmp op_gt opl_gt (je_callO G__law_draw takesD (hr.mono (by decide)) (by rfl) (ja_cons (je_var 0) (ja_cons (je_int) (ja_nil))) 2) (je_int) (nomark _))))) (jss_one (js_ret (je_callTy call_list_of cbl_list (by rfl) T.n_list bt_list (ja_cons (je_var 1) (ja_nil))))) (jss_nil)) (jss_cons (js_set 6 sc__law_bluff.nd rfl (Or.inl rfl) (je_op op_fdivW opl_div (je_op op_addAll opl_add (je_var 4) (je_int)) (je_int))) (jss_cons (js_set 7 sc__law_bluff.nd rfl (Or.inr rfl) (je_lstM (ja_cons (je_callO G__law_draw takesD (hr.mono (by decide)) (by rfl) (ja_cons (je_var 0) (ja_cons (je_var 4) (ja_nil))) 2) (ja_cons (je_int) (ja_cons (je_callO G__law_draw takesD (hr.mono (by decide)) (by rfl) (ja_cons (je_var 0) (ja_cons (je_var 4) (ja_nil))) 2) (ja_nil)))))) (jss_cons (js_if (jt_cmp op_lt opl_lt (je_var 3) (je_int) (nomark _)) (jss_one (js_setIx (je_op op_mulC opl_mul (je_var 5) (je_var 3)) (je_var 7) (je_int) (pg_sub (je_var 7) (je_int) set_list))) (jss_nil)) (jss_cons (js_setIx (je_op op_mod opl_mod (je_callTy call_int1 cbl_int (by rfl) T.n_int bt_int (ja_cons (je_op op_sub opl_sub (je_var 5) (je_ix (je_var 7) (je_int))) (ja_nil))) (je_var 4)) (je_var 7) (je_int) (pg_sub (je_var 7) (je_int) set_list)) (jss_cons (js_if (PW.pt (jw_and (jt_cmp op_gt opl_gt (je_var 3) (je_int) (nomark _)) (jw_and1 (jt_cmp op_gt opl_gt (je_callO G__law_draw takesD (hr.mono (by decide)) (by rfl) (ja_cons (je_var 0) (ja_cons (je_int) (ja_nil))) 2) (je_int) (nomark _))))) (jss_cons (js_set 8 sc__law_bluff.nd rfl (Or.inl rfl) (je_op op_sub opl_sub (je_op op_mulC opl_mul (je_op op_mulC opl_mul (je_ix (je_var 7) (je_int)) (je_var 3)) (je_op op_sub opl_sub (je_var 3) (je_int))) (je_op op_mulC opl_mul (je_op op_mulC opl_mul (je_op op_mulC opl_mul (je_ix (je_var 7) (je_int)) (je_op op_sub opl_sub (je_var 3) (je_int))) (je_op op_sub opl_sub (je_var 3) (je_int))) (je_var 6)))) (jss_one (js_setIx (je_op op_mod opl_mod (je_callTy call_int1 cbl_int (by rfl) T.n_int bt_int (ja_cons (je_op op_mulC opl_mul (je_var 8) (je_callO G__law_inverse takesD (hr.mono (by decide)) (by rfl) (ja_cons (je_op op_mod opl_mod (je_callTy call_int1 cbl_int (by rfl) T.n_int bt_int (ja_cons (je_op op_mulC opl_mul (je_op op_mulC opl_mul (je_var 3) (je_op op_sub opl_sub (je_var 3) (je_int))) (je_var 6)) (ja_nil))) (je_var 4)) (ja_cons (je_var 4) (ja_nil))) 2)) (ja_nil))) (je_var 4)) (je_var 7) (je_int) (pg_sub (je_var 7) (je_int) set_list)))) (jss_nil)) (jss_one (js_ret (je_lc (own := [("_law_k", 9)]) rfl sc__law_bluff.nd (ji_range1 (by rfl) T.n_range (ja_cons (je_int) (ja_nil))) (blkOk_by (N := ["_law_state_here", "_law_mine", "_law_claim", "_law_guess", "_law_p", "_law_lack", "_law_half", "_law_more", "_law_rest", "_law_k"]) (sc := defScope s__law_bluff) (by decide +kernel)) (fun _ _ _ _ _ => jg_name (js := [9]) 9 (by decide) sc__law_bluff.nd rfl (Or.inl rfl)) (fun _ _ _ _ _ => jts_nil) (fun _ _ _ _ _ => je_op op_mod opl_mod (je_callTy call_int1 cbl_int (by rfl) T.n_int bt_int (ja_cons (je_op op_addAll opl_add (je_ix (je_var 1) (je_var 9)) (je_ix (je_var 7) (je_var 9))) (ja_nil))) (je_var 4)))))))))))) rd__law_bluff⟩
theorem ok__law_pair {P : Program} {w : World} {K : PySem.W.Frag} {mg : Str → Option Value} {base : Heap} (T : Txt K mg) (G__law_inverse : Ok P w K mg base "_law_inverse" 1 ["_law_number", "_law_p"] C__law_inverse) : Ok P w K mg base "_law_pair" 2 ["_law_mine", "_law_claim", "_law_p"] C__law_pair := by
  obtain ⟨f, fd, F, hm, b⟩ := T.d__law_pair
  exact ⟨f, fd, hm, F.kp, b, okD (W := W__law_pair) (k := 1) F sc__law_pair (fun cdv A outer s H E hr => jss_cons (js_asg (je_var 0) (jg_unl (js := [3, 4]) [3, 4] rfl (by decide) (pgs_cons (pg_name (i := 3) sc__law_pair.nd rfl (Or.inl rfl)) (pgs_cons (pg_name (i := 4) sc__law_pair.nd rfl (Or.inl rfl)) (pgs_nil))))) (jss_cons (js_if (jt_cmp (op_eqD hr.units) opl_eq (je_op op_mod opl_mod (je_callTy call_int1 cbl_int (by rfl) T.n_int bt_int (ja_cons (je_op op_mulC opl_mul (je_var 3) (je_var 4)) (ja_nil))) (je_var 2)) (je_var 1) (nomark _)) (jss_one (js_ret (je_lst (ja_cons (je_var 3) (ja_cons (je_var 4) (ja_nil)))))) (jss_nil)) (jss_cons (js_if (jt_cmp (op_neD hr.units) opl_ne (je_var 3) (je_int) (nomark _)) (jss_one (js_ret (je_lst (ja_cons (je_var 3) (ja_cons (je_op op_mod opl_mod (je_callTy call_int1 cbl_int (by rfl) T.n_int bt_int (ja_cons (je_op op_mulC opl_mul (je_var 1) (je_callO G__law_inverse takesD (hr.mono (by decide)) (by rfl) (ja_cons (je_var 3) (ja_cons (je_var 2) (ja_nil))) 2)) (ja_nil))) (je_var 2)) (ja_nil)))))) (jss_nil)) (jss_one (js_ret (je_ifExp (jt_cmp (op_neD hr.units) opl_ne (je_var 4) (je_int) (nomark _)) (je_lst (ja_cons (je_op op_mod opl_mod (je_callTy call_int1 cbl_int (by rfl) T.n_int bt_int (ja_cons (je_op op_mulC opl_mul (je_var 1) (je_callO G__law_inverse takesD (hr.mono (by decide)) (by rfl) (ja_cons (je_var 4) (ja_cons (je_var 2) (ja_nil))) 2)) (ja_nil))) (je_var 2)) (ja_cons (je_var 4) (ja_nil)))) (je_lst (ja_cons (je_int) (ja_cons (je_var 1) (ja_nil)))))))))) rd__law_pair⟩
theorem ok__law_talk {P : Program} {w : World} {K : PySem.W.Frag} {mg : Str → Option Value} {base : Heap} (T : Txt K mg) (G__law_times : Ok P w K mg base "_law_times" 1 ["_law_left", "_law_right", "_law_sizes", "_law_p"] (orC C__law_times C__law_timesM)) (G__law_value : Ok P w K mg base "_law_value" 2 ["_law_table_here", "_law_point", "_law_p"] C__law_value) (G_I_ProductAnswerer : OkI P w K mg base "ProductAnswerer" 2 ["self", "p", "left", "right", "sizes", "point"] C_ProductAnswerer_init) (G_M_ProductAnswerer_pair : OkM P w K base mg "ProductAnswerer" "pair" 1 ["self"] C_ProductAnswerer_pair) (G__law_pair : Ok P w K mg base "_law_pair" 2 ["_law_mine", "_law_claim", "_law_p"] C__law_pair) (G_M_ProductAnswerer_poly : OkM P w K base mg "ProductAnswerer" "poly" 2 ["self"] C_ProductAnswerer_poly) (G__law_at : Ok P w K mg base "_law_at" 1 ["_law_values", "_law_t", "_law_p"] C__law_at) (G_M_ProductAnswerer_throw : OkM P w K base mg "ProductAnswerer" "throw" 2 ["self", "number"] C_ProductAnswerer_throw) (G__law_draw : Ok P w K mg base "_law_draw" 1 ["_law_state_here", "_law_many"] C_drawX) (G__law_bluff : Ok P w K mg base "_law_bluff" 2 ["_law_state_here", "_law_mine", "_law_claim", "_law_guess", "_law_p"] C__law_bluff) : Ok P w K mg base "_law_talk" 4 ["_law_state_here", "_law_left", "_law_right", "_law_claimed", "_law_sizes", "_law_throws", "_law_p", "_law_seed"] C__law_talk := by
  obtain ⟨f, fd, F, hm, b⟩ := T.d__law_talk
  exact ⟨f, fd, hm, F.kp, b, okDQ (W := W__law_talk) (k := 3) F sc__law_talk (fun cdv A outer s H E hr => jss_cons (js_asg (je_var 4) (jg_tup (js := [8, 9, 10]) [8, 9, 10] rfl (by decide) (pgs_cons (pg_name (i := 8) sc__law_talk.nd rfl (Or.inl rfl)) (pgs_cons (pg_name (i := 9) sc__law_talk.nd rfl (Or.inl rfl)) (pgs_cons (pg_name (i := 10) sc__law_talk.nd rfl (Or.inl rfl)) (pgs_nil)))))) (jss_cons (js_set 11 sc__law_talk.nd rfl (Or.inl rfl) (je_sl (je_var 5) (jo_none) (jo_some (je_op op_addAll opl_add (je_var 8) (je_var 10))))) (jss_cons (js_set 12 sc__law_talk.nd rfl (Or.inl rfl) (je_callO G__law_times.orL takesD (hr.mono (by decide)) (by rfl) (ja_cons (je_var 1) (ja_cons (je_var 2) (ja_cons (je_var 4) (ja_cons (je_var 6) (ja_nil))))) 4)) (jss_cons (js_set 13 sc__law_talk.nd rfl (Or.inl rfl) (je_callO G__law_value takesD (hr.mono (by decide)) (by rfl) (ja_cons (je_var 3) (ja_cons (je_var 11) (ja_cons (je_var 6) (ja_nil)))) 3)) (jss_cons (js_set 14 sc__law_talk.nd rfl (Or.inl rfl) (je_ifExp (jt_cmp (op_eqD hr.units) opl_eq (je_var 13) (je_callO G__law_value takesD (hr.mono (by decide)) (by rfl) (ja_cons (je_var 12) (ja_cons (je_var 11) (ja_cons (je_var 6) (ja_nil)))) 3) (nomark _)) (je_tup (ja_cons (je_str) (ja_nil))) (je_non))) (jss_cons (js_set 15 sc__law_talk.nd rfl (Or.inl rfl) (je_make G_I_ProductAnswerer takesD (hr.mono (by decide)) (by rfl) (ja_cons (je_var 6) (ja_cons (je_var 1) (ja_cons (je_var 2) (ja_cons (je_var 4) (ja_cons (je_var 11) (ja_nil)))))) 5)) (jss_cons (js_set 16 sc__law_talk.nd rfl (Or.inl rfl) (je_lstM (ja_nil))) (jss_cons (js_for passD rfl (ji_range1 (by rfl) T.n_range (ja_cons (je_var 9) (ja_nil))) (jg_name (js := [17]) 17 (by decide) sc__law_talk.nd rfl (Or.inl rfl)) (jss_cons (js_set 21 sc__law_talk.nd rfl (Or.inl rfl) (je_ix (je_var 5) (je_op op_addAll opl_add (je_op op_addAll opl_add (je_var 8) (je_var 10)) (je_var 17)))) (jss_cons (js_set 18 sc__law_talk.nd rfl (Or.inl rfl) (je_meth0 (mn := "poly") (lv := 2) (tab := [("ProductAnswerer", C_ProductAnswerer_poly)]) (okMs_cons G_M_ProductAnswerer_poly rfl (by decide) okMs_nil) takesD (hr.mono (by decide)) (je_var 15))) (jss_cons (js_if (jt_cmp op_gt opl_gt (je_var 7) (je_int) (nomark _)) (jss_one (js_set 0 sc__law_talk.nd rfl (Or.inl rfl) (je_lstM (ja_cons (je_lst (ja_nil)) (ja_cons (je_op op_addAll opl_add (je_var 7) (je_callB (cr_sum rfl) cbl_sum (by rfl) T.n_sum bt_sum (ja_cons (je_lc (own := [("_law_j", 23)]) rfl sc__law_talk.nd (ji_range1 (by rfl) T.n_range (ja_cons (je_op op_addAll opl_add (je_op op_addAll opl_add (je_var 8) (je_var 10)) (je_var 17)) (ja_nil))) (blkOk_by (N := ["_law_state_here", "_law_left", "_law_right", "_law_claimed", "_law_sizes", "_law_throws", "_law_p", "_law_seed", "_law_a", "_law_b", "_law_c", "_law_point", "_law_true", "_law_claim", "_law_place", "_law_answerer", "_law_sent", "_law_k", "_law_mine", "_law_pair_here", "_law_due", "_law_number", "_law_guess", "_law_j"]) (sc := defScope s__law_talk) (by decide +kernel)) (fun _ _ _ _ _ => jg_name (js := [23]) 23 (by decide) sc__law_talk.nd rfl (Or.inl rfl)) (fun _ _ _ _ _ => jts_nil) (fun _ _ _ _ _ => je_op op_mulC opl_mul (je_op op_mulC opl_mul (je_op op_addAll opl_add (je_ix (je_var 5) (je_var 23)) (je_int)) (je_op op_pow (opl_I (C := CPow) fun _ _ h => h) (je_int) (je_int))) (je_op op_addAll opl_add (je_var 23) (je_int)))) (ja_nil)))) (ja_nil)))))) (jss_nil)) (jss_cons (js_set 22 sc__law_talk.nd rfl (Or.inl rfl) (je_ifExp (PW.pt (jw_or (jt_cmp op_gt opl_gt (je_var 7) (je_int) (nomark _)) (jw_or1 (jt_cmp (op_eqD hr.units) opl_eq (je_callO G__law_draw takesD (hr.mono (by decide)) (by rfl) (ja_cons (je_var 0) (ja_cons (je_int) (ja_nil))) 2) (je_int) (nomark _))))) (je_callO G__law_draw takesD (hr.mono (by decide)) (by rfl) (ja_cons (je_var 0) (ja_cons (je_var 6) (ja_nil))) 2) (je_var 21))) (jss_cons (js_expr (je_mL PySem.F.slot_list_append PySem.F.type_list_append mt_append mtl_app (je_var 16) (ja_cons (je_callO G__law_bluff takesD (hr.mono (by decide)) (by rfl) (ja_cons (je_var 0) (ja_cons (je_var 18) (ja_cons (je_var 13) (ja_cons (je_var 22) (ja_cons (je_var 6) (ja_nil)))))) 5) (ja_nil)))) (jss_cons (js_set 13 sc__law_talk.nd rfl (Or.inl rfl) (je_callO G__law_at takesD (hr.mono (by decide)) (by rfl) (ja_cons (je_ix (je_var 16) (je_var 17)) (ja_cons (je_var 21) (ja_cons (je_var 6) (ja_nil)))) 3)) (jss_cons (js_if (PW.pt (jw_and (jt_cmp op_isN opl_isN (je_var 14) (je_non) (nomark _)) (jw_and (jt_cmp (op_neD hr.units) opl_ne (je_ix (je_var 16) (je_var 17)) (je_var 18) (nomark _)) (jw_and1 (jt_cmp (op_eqD hr.units) opl_eq (je_var 13) (je_callO G__law_at takesD (hr.mono (by decide)) (by rfl) (ja_cons (je_var 18) (ja_cons (je_var 21) (ja_cons (je_var 6) (ja_nil)))) 3) (nomark _)))))) (jss_one (js_set 14 sc__law_talk.nd rfl (Or.inl rfl) (je_tup (ja_cons (je_str) (ja_cons (je_var 17) (ja_nil)))))) (jss_nil)) (jss_one (js_expr (je_meth (mn := "throw") (lv := 2) (n := 1) (tab := [("ProductAnswerer", C_ProductAnswerer_throw)]) (okMs_cons G_M_ProductAnswerer_throw rfl (by decide) okMs_nil) takesD (hr.mono (by decide)) (je_var 15) (ja_cons (je_var 21) (ja_nil))))))))))))) (jss_cons (js_set 18 sc__law_talk.nd rfl (Or.inl rfl) (je_meth0 (mn := "pair") (lv := 1) (tab := [("ProductAnswerer", C_ProductAnswerer_pair)]) (okMs_cons G_M_ProductAnswerer_pair rfl (by decide) okMs_nil) takesD (hr.mono (by decide)) (je_var 15))) (jss_cons (js_set 19 sc__law_talk.nd rfl (Or.inl rfl) (je_callO G__law_pair takesD (hr.mono (by decide)) (by rfl) (ja_cons (je_var 18) (ja_cons (je_var 13) (ja_cons (je_var 6) (ja_nil)))) 3)) (jss_cons (js_set 20 sc__law_talk.nd rfl (Or.inl rfl) (je_tup (ja_cons (je_str) (ja_nil)))) (jss_cons (js_if (jt_cmp (op_neD hr.units) opl_ne (je_var 19) (je_var 18) (nomark _)) (jss_one (js_set 20 sc__law_talk.nd rfl (Or.inl rfl) (je_tup (ja_cons (je_str) (ja_cons (je_ifExp (jt_cmp (op_neD hr.units) opl_ne (je_ix (je_var 19) (je_int)) (je_ix (je_var 18) (je_int)) (nomark _)) (je_str) (je_str)) (ja_nil)))))) (jss_nil)) (jss_one (js_frz 16 (js_ret (je_tup (ja_cons (je_tup (ja_cons (je_var 16) (ja_cons (je_var 19) (ja_nil)))) (ja_cons (je_var 20) (ja_cons (je_ifExp (PW.pt (jw_and (jt_cmp (op_neD hr.units) opl_ne (je_var 3) (je_var 12) (nomark _)) (jw_and1 (jt_cmp (op_eqD hr.units) opl_eq (je_var 20) (je_tup (ja_cons (je_str) (ja_nil))) (nomark _))))) (je_var 14) (je_non)) (ja_nil)))))))))))))))))))) rd__law_talk⟩
theorem ok__law_small {P : Program} {w : World} {K : PySem.W.Frag} {mg : Str → Option Value} {base : Heap} (T : Txt K mg) (G__law_pick : Ok P w K mg base "_law_pick" 2 ["_law_state_here", "_law_row"] C_pick) (G__law_table : Ok P w K mg base "_law_table" 3 ["_law_state_here", "_law_bits", "_law_p"] C__law_table) (G__law_times : Ok P w K mg base "_law_times" 1 ["_law_left", "_law_right", "_law_sizes", "_law_p"] (orC C__law_times C__law_timesM)) (G__law_draw : Ok P w K mg base "_law_draw" 1 ["_law_state_here", "_law_many"] C_drawX) (G__law_talk : Ok P w K mg base "_law_talk" 4 ["_law_state_here", "_law_left", "_law_right", "_law_claimed", "_law_sizes", "_law_throws", "_law_p", "_law_seed"] C__law_talk) (G_judge_product : Ok P w K mg base "judge_product" 8 ["left", "right", "claimed", "sizes", "throws", "told", "p"] C_judge_product) (G_product_share : Ok P w K mg base "product_share" 1 ["sizes"] C_product_share) (G_blame_product : Ok P w K mg base "blame_product" 9 ["left", "right", "claimed", "sizes", "throws", "told", "p"] C_blame_product) : Ok P w K mg base "_law_small" 10 ["_law_state_here"] C__law_small := by
  obtain ⟨f, fd, F, hm, b⟩ := T.d__law_small
  exact ⟨f, fd, hm, F.kp, b, okD (W := W__law_small) (k := 9) F sc__law_small (fun cdv A outer s H E hr => jss_cons (js_set 1 sc__law_small.nd rfl (Or.inl rfl) (je_int)) (jss_cons (js_set 2 sc__law_small.nd rfl (Or.inl rfl) (je_callO G__law_pick takesD (hr.mono (by decide)) (by rfl) (ja_cons (je_var 0) (ja_cons (je_lst (ja_cons (je_tup (ja_cons (je_int) (ja_cons (je_int) (ja_cons (je_int) (ja_nil))))) (ja_cons (je_tup (ja_cons (je_int) (ja_cons (je_int) (ja_cons (je_int) (ja_nil))))) (ja_cons (je_tup (ja_cons (je_int) (ja_cons (je_int) (ja_cons (je_int) (ja_nil))))) (ja_cons (je_tup (ja_cons (je_int) (ja_cons (je_int) (ja_cons (je_int) (ja_nil))))) (ja_cons (je_tup (ja_cons (je_int) (ja_cons (je_int) (ja_cons (je_int) (ja_nil))))) (ja_nil))))))) (ja_nil))) 2)) (jss_cons (js_asg (je_var 2) (jg_tup (js := [3, 4, 5]) [3, 4, 5] rfl (by decide) (pgs_cons (pg_name (i := 3) sc__law_small.nd rfl (Or.inl rfl)) (pgs_cons (pg_name (i := 4) sc__law_small.nd rfl (Or.inl rfl)) (pgs_cons (pg_name (i := 5) sc__law_small.nd rfl (Or.inl rfl)) (pgs_nil)))))) (jss_cons (js_set 6 sc__law_small.nd rfl (Or.inl rfl) (je_callO G__law_table takesD (hr.mono (by decide)) (by rfl) (ja_cons (je_var 0) (ja_cons (je_op op_addAll opl_add (je_var 3) (je_var 4)) (ja_cons (je_var 1) (ja_nil)))) 3)) (jss_cons (js_set 7 sc__law_small.nd rfl (Or.inl rfl) (je_callO G__law_table takesD (hr.mono (by decide)) (by rfl) (ja_cons (je_var 0) (ja_cons (je_op op_addAll opl_add (je_var 4) (je_var 5)) (ja_cons (je_var 1) (ja_nil)))) 3)) (jss_cons (js_set 8 sc__law_small.nd rfl (Or.inl rfl) (je_callO G__law_times.orR takesD (hr.mono (by decide)) (by rfl) (ja_cons (je_var 6) (ja_cons (je_var 7) (ja_cons (je_var 2) (ja_cons (je_var 1) (ja_nil))))) 4)) (jss_cons (js_set 9 sc__law_small.nd rfl (Or.inl rfl) (je_callO G__law_draw.drawL takesD (hr.mono (by decide)) (by rfl) (ja_cons (je_var 0) (ja_cons (je_callB call_len cbl_len (by rfl) T.n_len bt_len (ja_cons (je_var 8) (ja_nil))) (ja_nil))) 2)) (jss_cons (js_setIx (je_op op_mod opl_mod (je_callTy call_int1 cbl_int (by rfl) T.n_int bt_int (ja_cons (je_op op_addAll opl_add (je_op op_addAll opl_add (je_ix (je_var 8) (je_var 9)) (je_int)) (je_callO G__law_draw.drawL takesD (hr.mono (by decide)) (by rfl) (ja_cons (je_var 0) (ja_cons (je_int) (ja_nil))) 2)) (ja_nil))) (je_var 1)) (je_var 8) (je_var 9) (pg_sub (je_var 8) (je_var 9) set_list)) (jss_cons (js_set 10 sc__law_small.nd rfl (Or.inl rfl) (je_op op_addAll opl_add (je_int) (je_callO G__law_draw.drawL takesD (hr.mono (by decide)) (by rfl) (ja_cons (je_var 0) (ja_cons (je_int) (ja_nil))) 2))) (jss_cons (js_set 11 sc__law_small.nd rfl (Or.inl rfl) (je_op op_addAll opl_add (je_op op_addAll opl_add (je_var 3) (je_var 4)) (je_var 5))) (jss_cons (js_set 12 sc__law_small.nd rfl (Or.inl rfl) (je_int)) (jss_cons (js_frz 8 (js_for passD rfl (ji_range1 (by rfl) T.n_range (ja_cons (je_ix (je_lst (ja_cons (je_int) (ja_cons (je_int) (ja_cons (je_int) (ja_nil))))) (je_var 11)) (ja_nil))) (jg_name (js := [13]) 13 (by decide) sc__law_small.nd rfl (Or.inr rfl)) (jss_cons (js_setLc (own := [("_law_k", 19)]) 14 rfl sc__law_small.nd rfl rfl (sw_true rfl rfl rfl (by decide +kernel)) (ji_range1 (by rfl) T.n_range (ja_cons (je_var 11) (ja_nil))) (blkOk_by (N := ["_law_state_here", "_law_p", "_law_sizes", "_law_a", "_law_b", "_law_c", "_law_left", "_law_right", "_law_claimed", "_law_at_here", "_law_seed", "_law_many", "_law_count", "_law_index", "_law_throws", "_law_told", "_law_due", "_law_place", "_law_result", "_law_k"]) (sc := defScope s__law_small) (by decide +kernel)) (fun _ _ _ _ _ => jg_name (js := [19]) 19 (by decide) sc__law_small.nd rfl (Or.inl rfl)) (fun _ _ _ _ _ => jts_nil) (fun _ _ _ _ _ => je_op op_mod opl_mod (je_callTy call_int1 cbl_int (by rfl) T.n_int bt_int (ja_cons (je_op op_fdivW opl_div (je_var 13) (je_ix (je_lst (ja_cons (je_int) (ja_cons (je_int) (ja_nil)))) (je_var 19))) (ja_nil))) (je_int))) (jss_cons (js_asg (je_callO G__law_talk takesD (hr.mono (by decide)) (by rfl) (ja_cons (je_var 0) (ja_cons (je_var 6) (ja_cons (je_var 7) (ja_cons (je_var 8) (ja_cons (je_var 2) (ja_cons (je_var 14) (ja_cons (je_var 1) (ja_cons (je_var 10) (ja_nil))))))))) 8) (jg_tup (js := [15, 16, 17]) [15, 16, 17] rfl (by decide) (pgs_cons (pg_name (i := 15) sc__law_small.nd rfl (Or.inl rfl)) (pgs_cons (pg_name (i := 16) sc__law_small.nd rfl (Or.inl rfl)) (pgs_cons (pg_name (i := 17) sc__law_small.nd rfl (Or.inl rfl)) (pgs_nil)))))) (jss_cons (js_set 18 sc__law_small.nd rfl (Or.inl rfl) (je_callO G_judge_product takesD (hr.mono (by decide)) (by rfl) (ja_cons (je_var 6) (ja_cons (je_var 7) (ja_cons (je_var 8) (ja_cons (je_var 2) (ja_cons (je_var 14) (ja_cons (je_var 15) (ja_cons (je_var 1) (ja_nil)))))))) 7)) (jss_cons (js_if (PW.pt (jw_or (jt_cmp (op_neD hr.units) opl_ne (je_var 18) (je_var 16) (nomark _)) (jw_or1 (jt_cmp (op_neD hr.units) opl_ne (je_callO G_blame_product takesD (hr.mono (by decide)) (by rfl) (ja_cons (je_var 6) (ja_cons (je_var 7) (ja_cons (je_var 8) (ja_cons (je_var 2) (ja_cons (je_var 14) (ja_cons (je_var 15) (ja_cons (je_var 1) (ja_nil)))))))) 7) (je_var 17) (nomark _))))) (jss_one (js_ret (je_bl))) (jss_nil)) (jss_one (js_set 12 sc__law_small.nd rfl (Or.inl rfl) (je_op op_addAll opl_add (je_var 12) (je_callTy call_int1 cbl_int (by rfl) T.n_int bt_int (ja_cons (je_cmp (op_eqD hr.units) opl_eq (je_var 18) (je_tup (ja_cons (je_str) (ja_nil))) (nomark _)) (ja_nil)))))))))))) (jss_one (js_ret (je_cmp op_le opl_le (je_op op_mulC opl_mul (je_int) (je_var 12)) (je_op op_mulC opl_mul (je_ix (je_lst (ja_cons (je_int) (ja_cons (je_int) (ja_cons (je_int) (ja_nil))))) (je_var 11)) (je_callO G_product_share takesD (hr.mono (by decide)) (by rfl) (ja_cons (je_var 2) (ja_nil)) 1)) (nomark _)))))))))))))))) rd__law_small⟩
theorem ok_law {P : Program} {w : World} {K : PySem.W.Frag} {mg : Str → Option Value} {base : Heap} {f : Addr} {fd : FuncData} (T : Txt K mg) (G__law_state : Ok P w K mg base "_law_state" 1 ["_law_script"] C_state) (G__law_pick : Ok P w K mg base "_law_pick" 2 ["_law_state_here", "_law_row"] C_pick) (G__law_table : Ok P w K mg base "_law_table" 3 ["_law_state_here", "_law_bits", "_law_p"] C__law_table) (G__law_times : Ok P w K mg base "_law_times" 1 ["_law_left", "_law_right", "_law_sizes", "_law_p"] (orC C__law_times C__law_timesM)) (G__law_small : Ok P w K mg base "_law_small" 10 ["_law_state_here"] C__law_small) (G__law_draw : Ok P w K mg base "_law_draw" 1 ["_law_state_here", "_law_many"] C_drawX) (G__law_talk : Ok P w K mg base "_law_talk" 4 ["_law_state_here", "_law_left", "_law_right", "_law_claimed", "_law_sizes", "_law_throws", "_law_p", "_law_seed"] C__law_talk) (G_judge_product : Ok P w K mg base "judge_product" 8 ["left", "right", "claimed", "sizes", "throws", "told", "p"] C_judge_product) (G_blame_product : Ok P w K mg base "blame_product" 9 ["left", "right", "claimed", "sizes", "throws", "told", "p"] C_blame_product) (F : Fun K "law" "law" s_law f fd) : LawAt P w K mg base f fd ["_law_script"] (spOf K 1 (CLaw ClawT)) :=
  lawAtD (W := W_law) (k := 10) F sc_law ⟨rfl, by decide, by decide⟩ (fun cdv A outer s H E hgA hr => jss_cons (js_set 1 sc_law.nd rfl (Or.inr rfl) (je_callO G__law_state takesD (hr.mono (by decide)) (by rfl) (ja_cons (je_var 0) (ja_nil)) 1)) (jss_cons (js_set 2 sc_law.nd rfl (Or.inr rfl) (je_callO G__law_pick takesD (hr.mono (by decide)) (by rfl) (ja_cons (je_var 1) (ja_cons (je_lst (ja_cons (je_int) (ja_cons (je_int) (ja_cons (je_int) (ja_cons (je_int) (ja_cons (je_int) (ja_nil))))))) (ja_nil))) 2)) (jss_cons (js_set 3 sc_law.nd rfl (Or.inl rfl) (je_tup (ja_cons (je_callO G__law_draw.drawL takesD (hr.mono (by decide)) (by rfl) (ja_cons (je_var 1) (ja_cons (je_int) (ja_nil))) 2) (ja_cons (je_callO G__law_draw.drawL takesD (hr.mono (by decide)) (by rfl) (ja_cons (je_var 1) (ja_cons (je_int) (ja_nil))) 2) (ja_cons (je_callO G__law_draw.drawL takesD (hr.mono (by decide)) (by rfl) (ja_cons (je_var 1) (ja_cons (je_int) (ja_nil))) 2) (ja_nil)))))) (jss_cons (js_asg (je_var 3) (jg_tup (js := [4, 5, 6]) [4, 5, 6] rfl (by decide) (pgs_cons (pg_name (i := 4) sc_law.nd rfl (Or.inl rfl)) (pgs_cons (pg_name (i := 5) sc_law.nd rfl (Or.inl rfl)) (pgs_cons (pg_name (i := 6) sc_law.nd rfl (Or.inl rfl)) (pgs_nil)))))) (jss_cons (js_set 7 sc_law.nd rfl (Or.inl rfl) (je_callO G__law_table takesD (hr.mono (by decide)) (by rfl) (ja_cons (je_var 1) (ja_cons (je_op op_addAll opl_add (je_var 4) (je_var 5)) (ja_cons (je_var 2) (ja_nil)))) 3)) (jss_cons (js_set 8 sc_law.nd rfl (Or.inl rfl) (je_callO G__law_table takesD (hr.mono (by decide)) (by rfl) (ja_cons (je_var 1) (ja_cons (je_op op_addAll opl_add (je_var 5) (je_var 6)) (ja_cons (je_var 2) (ja_nil)))) 3)) (jss_cons (js_set 9 sc_law.nd rfl (Or.inl rfl) (je_callO G__law_times.orR takesD (hr.mono (by decide)) (by rfl) (ja_cons (je_var 7) (ja_cons (je_var 8) (ja_cons (je_var 3) (ja_cons (je_var 2) (ja_nil))))) 4)) (jss_cons (js_if (jt_cmp op_gt opl_gt (je_callO G__law_draw.drawL takesD (hr.mono (by decide)) (by rfl) (ja_cons (je_var 1) (ja_cons (je_int) (ja_nil))) 2) (je_int) (nomark _)) (jss_one (js_for passD rfl (ji_range1 (by rfl) T.n_range (ja_cons (je_op op_addAll opl_add (je_int) (je_callO G__law_draw.drawL takesD (hr.mono (by decide)) (by rfl) (ja_cons (je_var 1) (ja_cons (je_int) (ja_nil))) 2)) (ja_nil))) (jg_name (js := [11]) 11 (by decide) sc_law.nd rfl (Or.inl rfl)) (jss_one (js_setIx (je_callO G__law_draw.drawL takesD (hr.mono (by decide)) (by rfl) (ja_cons (je_var 1) (ja_cons (je_var 2) (ja_nil))) 2) (je_var 9) (je_callO G__law_draw.drawL takesD (hr.mono (by decide)) (by rfl) (ja_cons (je_var 1) (ja_cons (je_callB call_len cbl_len (by rfl) T.n_len bt_len (ja_cons (je_var 9) (ja_nil))) (ja_nil))) 2) (pg_sub (je_var 9) (je_callO G__law_draw.drawL takesD (hr.mono (by decide)) (by rfl) (ja_cons (je_var 1) (ja_cons (je_callB call_len cbl_len (by rfl) T.n_len bt_len (ja_cons (je_var 9) (ja_nil))) (ja_nil))) 2) set_list))))) (jss_nil)) (jss_cons (js_frz 9 (js_for passD rfl (ji_range1 (by rfl) T.n_range (ja_cons (je_int) (ja_nil))) (jg_name (js := [10]) 10 (by decide) sc_law.nd rfl (Or.inl rfl)) (jss_cons (js_setLc (own := [("_law_k", 11)]) 12 rfl sc_law.nd rfl rfl (sw_true rfl rfl rfl (by decide +kernel)) (ji_range1 (by rfl) T.n_range (ja_cons (je_op op_addAll opl_add (je_op op_addAll opl_add (je_var 4) (je_var 5)) (je_var 6)) (ja_nil))) (blkOk_by (N := ["_law_script", "_law_state_here", "_law_p", "_law_sizes", "_law_a", "_law_b", "_law_c", "_law_left", "_law_right", "_law_claimed", "_law_turn", "_law_k", "_law_throws", "_law_told", "_law_due", "_law_place", "_law_before"]) (sc := defScope s_law) (by decide +kernel)) (fun _ _ _ _ _ => jg_name (js := [11]) 11 (by decide) sc_law.nd rfl (Or.inl rfl)) (fun _ _ _ _ _ => jts_nil) (fun _ _ _ _ _ => je_callO G__law_draw.drawL takes0 (hr.mono (by decide)) (by rfl) (ja_cons (je_var 1) (ja_cons (je_var 2) (ja_nil))) 2)) (jss_cons (js_asg (je_callO G__law_talk takesD (hr.mono (by decide)) (by rfl) (ja_cons (je_var 1) (ja_cons (je_var 7) (ja_cons (je_var 8) (ja_cons (je_var 9) (ja_cons (je_var 3) (ja_cons (je_var 12) (ja_cons (je_var 2) (ja_cons (je_int) (ja_nil))))))))) 8) (jg_tup (js := [13, 14, 15]) [13, 14, 15] rfl (by decide) (pgs_cons (pg_name (i := 13) sc_law.nd rfl (Or.inl rfl)) (pgs_cons (pg_name (i := 14) sc_law.nd rfl (Or.inl rfl)) (pgs_cons (pg_name (i := 15) sc_law.nd rfl (Or.inl rfl)) (pgs_nil)))))) (jss_cons (js_set 16 sc_law.nd rfl (Or.inl rfl) (je_callB (callR_repr2 hgA (room_un hr)) cbl_repr2 (by rfl) T.n_repr bt_repr (ja_cons (je_lst (ja_cons (je_var 7) (ja_cons (je_var 8) (ja_cons (je_var 9) (ja_cons (je_var 12) (ja_cons (je_var 13) (ja_nil))))))) (ja_nil)))) (jss_cons (js_if (jt_cmp (op_neD hr.units) opl_ne (je_callO G_judge_product takesD (hr.mono (by decide)) (by rfl) (ja_cons (je_var 7) (ja_cons (je_var 8) (ja_cons (je_var 9) (ja_cons (je_var 3) (ja_cons (je_var 12) (ja_cons (je_var 13) (ja_cons (je_var 2) (ja_nil)))))))) 7) (je_var 14) (nomark _)) (jss_one (js_ret (je_bl))) (jss_nil)) (jss_cons (js_if (jt_cmp (op_neD hr.units) opl_ne (je_callO G_blame_product takesD (hr.mono (by decide)) (by rfl) (ja_cons (je_var 7) (ja_cons (je_var 8) (ja_cons (je_var 9) (ja_cons (je_var 3) (ja_cons (je_var 12) (ja_cons (je_var 13) (ja_cons (je_var 2) (ja_nil)))))))) 7) (je_var 15) (nomark _)) (jss_one (js_ret (je_bl))) (jss_nil)) (jss_cons (js_if (PW.pt (jw_and (jt_cmp (op_eqD hr.units) opl_eq (je_var 14) (je_tup (ja_cons (je_str) (ja_nil))) (nomark _)) (jw_and (jt_cmp (op_neD hr.units) opl_ne (je_var 9) (je_callO G__law_times.orL takesD (hr.mono (by decide)) (by rfl) (ja_cons (je_var 7) (ja_cons (je_var 8) (ja_cons (je_var 3) (ja_cons (je_var 2) (ja_nil))))) 4) (nomark _)) (jw_and1 (jt_cmp op_isN opl_isN (je_var 15) (je_non) (nomark _)))))) (jss_one (js_ret (je_bl))) (jss_nil)) (jss_one (js_if (jt_cmp op_ne opl_neS (je_callB (callR_repr2 hgA (room_un hr)) cbl_repr2 (by rfl) T.n_repr bt_repr (ja_cons (je_lst (ja_cons (je_var 7) (ja_cons (je_var 8) (ja_cons (je_var 9) (ja_cons (je_var 12) (ja_cons (je_var 13) (ja_nil))))))) (ja_nil))) (je_var 16) (nomark _)) (jss_one (js_ret (je_bl))) (jss_nil))))))))))) (jss_one (js_ret (je_callO G__law_small takesD (hr.mono (by decide)) (by rfl) (ja_cons (je_var 1) (ja_nil)) 1)))))))))))) rd_law
theorem all_ok {P : Program} {w : World} {K : PySem.W.Frag} {mg : Str → Option Value} {base : Heap} {f : Addr} {fd : FuncData} (T : Txt K mg) (F : Fun K "law" "law" s_law f fd) : LawAt P w K mg base f fd ["_law_script"] (spOf K 1 (CLaw ClawT)) := by
  have G_FieldError := ok_FieldError (P := P) (w := w) (base := base) T
  have G_CircuitError := ok_CircuitError (P := P) (w := w) (base := base) T
  have G_TalkError := ok_TalkError (P := P) (w := w) (base := base) T
  have G_SizeError := ok_SizeError (P := P) (w := w) (base := base) T
  have G__law_state := ok__law_state (P := P) (w := w) (base := base) T
  have G__law_draw := ok__law_draw (P := P) (w := w) (base := base) T
  have G__law_pick := ok__law_pick (P := P) (w := w) (base := base) T G__law_draw
  have G__law_table := ok__law_table (P := P) (w := w) (base := base) T G__law_pick G__law_draw
  have G__law_times := ok__law_times (P := P) (w := w) (base := base) T
  have G__law_near := ok__law_near (P := P) (w := w) (base := base) T
  have G__law_corner := ok__law_corner (P := P) (w := w) (base := base) T
  have G__law_value := ok__law_value (P := P) (w := w) (base := base) T G__law_near G__law_corner
  have G_point_table := ok_point_table (P := P) (w := w) (base := base) T
  have G_fold := ok_fold (P := P) (w := w) (base := base) T
  have G_I_ProductAnswerer := ok_I_ProductAnswerer (P := P) (w := w) (base := base) T G_point_table G_fold
  have G_M_ProductAnswerer_pair := ok_M_ProductAnswerer_pair (P := P) (w := w) (base := base) T
  have G__law_inverse := ok__law_inverse (P := P) (w := w) (base := base) T
  have G__law_pair := ok__law_pair (P := P) (w := w) (base := base) T G__law_inverse
  have G_M_ProductAnswerer_poly := ok_M_ProductAnswerer_poly (P := P) (w := w) (base := base) T G_fold
  have G__law_at := ok__law_at (P := P) (w := w) (base := base) T
  have G_M_ProductAnswerer_throw := ok_M_ProductAnswerer_throw (P := P) (w := w) (base := base) T G_fold
  have G__law_bluff := ok__law_bluff (P := P) (w := w) (base := base) T G__law_draw G__law_inverse
  have G__law_talk := ok__law_talk (P := P) (w := w) (base := base) T G__law_times G__law_value G_I_ProductAnswerer G_M_ProductAnswerer_pair G__law_pair G_M_ProductAnswerer_poly G__law_at G_M_ProductAnswerer_throw G__law_draw G__law_bluff
  have G_is_prime := ok_is_prime (P := P) (w := w) (base := base) T
  have G_check_modulus := ok_check_modulus (P := P) (w := w) (base := base) T G_FieldError G_is_prime
  have G_check_field := ok_check_field (P := P) (w := w) (base := base) T G_CircuitError G_check_modulus
  have G_check_sizes := ok_check_sizes (P := P) (w := w) (base := base) T G_SizeError G_check_field
  have G_is_number := ok_is_number (P := P) (w := w) (base := base) T
  have G_check_matrix := ok_check_matrix (P := P) (w := w) (base := base) T G_CircuitError G_is_number
  have G_check_talk := ok_check_talk (P := P) (w := w) (base := base) T G_TalkError G_is_number
  have G_I_SumAsker := ok_I_SumAsker (P := P) (w := w) (base := base) T
  have G_I_ProductTurn := ok_I_ProductTurn (P := P) (w := w) (base := base) T G_I_SumAsker
  have G_power := ok_power (P := P) (w := w) (base := base) T
  have G_inverse := ok_inverse (P := P) (w := w) (base := base) T G_FieldError G_power
  have G_weights := ok_weights (P := P) (w := w) (base := base) T G_inverse
  have G_value := ok_value (P := P) (w := w) (base := base) T G_weights
  have G_M_SumAsker_throw := ok_M_SumAsker_throw (P := P) (w := w) (base := base) T G_TalkError G_value
  have G_M_SumAsker_is_done := ok_M_SumAsker_is_done (P := P) (w := w) (base := base) T
  have G_M_ProductTurn_accept_pair := ok_M_ProductTurn_accept_pair (P := P) (w := w) (base := base) T G_TalkError G_M_SumAsker_is_done G_is_number
  have G_corners := ok_corners (P := P) (w := w) (base := base) T
  have G_M_SumAsker_accept := ok_M_SumAsker_accept (P := P) (w := w) (base := base) T G_TalkError G_M_SumAsker_is_done G_corners G_is_number
  have G_ask_product := ok_ask_product (P := P) (w := w) (base := base) T G_M_SumAsker_throw G_M_ProductTurn_accept_pair G_M_SumAsker_accept
  have G_product_throws := ok_product_throws (P := P) (w := w) (base := base) T
  have G_value_at := ok_value_at (P := P) (w := w) (base := base) T G_fold
  have G_judge_product := ok_judge_product (P := P) (w := w) (base := base) T G_check_sizes G_check_matrix G_check_talk G_I_ProductTurn G_ask_product G_product_throws G_value_at
  have G_product_share := ok_product_share (P := P) (w := w) (base := base) T
  have G_multiply := ok_multiply (P := P) (w := w) (base := base) T
  have G_same := ok_same (P := P) (w := w) (base := base) T G_value
  have G_round_agreement := ok_round_agreement (P := P) (w := w) (base := base) T G_M_ProductAnswerer_poly G_M_SumAsker_throw G_M_ProductAnswerer_throw G_same G_value
  have G_blame_product := ok_blame_product (P := P) (w := w) (base := base) T G_multiply G_I_ProductAnswerer G_judge_product G_value_at G_round_agreement
  have G__law_small := ok__law_small (P := P) (w := w) (base := base) T G__law_pick G__law_table G__law_times G__law_draw G__law_talk G_judge_product G_product_share G_blame_product
  exact ok_law T G__law_state G__law_pick G__law_table G__law_times G__law_small G__law_draw G__law_talk G_judge_product G_blame_product F
theorem law_fin {l : PySem.W.OpenLaw} {w : World} {K : PySem.W.Frag} {mg : Str → Option Value} {fa : Addr} (T : Txt K mg) (hfa : mg "law" = some (.ref fa)) : ∃ fd : FuncData, (∀ (s : Shared) (v : Value), BindsTo s fd ⟨[v], []⟩ [("_law_script", v)]) ∧
    ∀ base : Heap, K.In base → base.Ns mainGlobals mg → LawAt l.prog w K mg base fa fd ["_law_script"] (spOf K 1 (CLaw ClawT)) := by
  obtain ⟨f, fd, F, hm, b⟩ := T.d_law
  have e := hfa.symm.trans hm
  cases e
  exact ⟨fd, fun s v => .of_eq (b [v] rfl), fun base _ _ => all_ok T F⟩
end K87
open PySem PySem.W PyProof.Rows
open PySem PySem.W PySem.Calls PyProof.Rows
theorem PySem.Challenge.cw_layerask_k87_whole_false_products_are_bl_holds : PySem.Challenge.rw_layerask_k87_whole_false_products_are_bl.Holds := by
  refine K87.pre ?hc
  case hc =>
    refine Dl.walk_DGE (l := PySem.Challenge.rw_layerask_k87_whole_false_products_are_bl) (x := "_law_script") rfl rfl ?F
    case F =>
      intro w mg fa h Y G hmg0
      obtain ⟨K, KX, c⟩ := Y
      have hmg : mg ("law" : PySem.Str) = some (.ref fa) := by
        have e : (HandSHeadRun.topDef (PySem.W.OpenLaw.row PySem.Challenge.rw_layerask_k87_whole_false_products_are_bl).prog 54).name = ("law" : PySem.Str) := by kernel_rfl
        rw [← e]
        exact hmg0
      obtain ⟨fd, hb, hF⟩ := K87.law_fin (l := PySem.Challenge.rw_layerask_k87_whole_false_products_are_bl) (w := w) (K87.he_txt KX G c) hmg
      exact ⟨K, fd, KX, hb, hF⟩
