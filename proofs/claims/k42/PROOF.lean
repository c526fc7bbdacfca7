import PyProof.Rows.All
import Wide.All
import OpenK.AllK
import Wide.FinOn
import HandS.ForMost
import HandS.ForExc
import HandS.Wide
import HandS.EndBits
import HandS.ExcInit
import HandS.IsInst
import HandS.ExcField
import HandS.ExcIs
import KE.KExcIs
import HandS.TryMany
import HandS.Deep
import HandS.Style
import HandS.CallSlots
import HandS.Head0
import HandS.Head1
import HandS.Head2
import HandS.HeadEnd
import HandS.HeadHook1
import HandS.Text
import HandS.Codes
import HandS.Iter
import HandS.TupMul
import PyProof.StrOps2
import PySem.Challenge.RW_layerask_k42_errors_of_tokens
set_option Elab.async false
set_option linter.all false
set_option maxRecDepth 100000
set_option maxHeartbeats 4000000

/-! Data level: values as trees, a store of changing objects, readings lifted to them. -/
namespace Dl
open PySem L2

/-- where the class of this name stands -/
def kcl (K : PySem.W.Frag) (c : String) : Addr := match PySem.W.nsIn K mainGlobals (PySem.Str.ofString c) with
  | some (some (.ref C)) => C
  | _ => 0
theorem kcl_of {K : PySem.W.Frag} {c : String} {C : Addr} (h : PySem.W.nsIn K mainGlobals (PySem.Str.ofString c) = some (some (.ref C))) : kcl K c = C := by
  unfold kcl
  rw [h]

theorem ofString_inj {a b : String} : PySem.Str.ofString a = PySem.Str.ofString b ↔ a = b := by
  constructor
  · intro h
    rw [PySem.Str.ofString_eq_toList, PySem.Str.ofString_eq_toList] at h
    have h1 := congrArg (fun s => s.cps.toList) h
    have h2 : a.toList.map Char.toNat = b.toList.map Char.toNat := by simpa using h1
    have h3 : a.toList = b.toList := by
      refine List.map_inj_right (f := Char.toNat) ?_ |>.mp h2
      intro x y e
      exact Char.ext (UInt32.toNat_inj.mp e)
    exact String.ext h3
  · intro h; rw [h]
theorem ofString_beq {a b : String} : (PySem.Str.ofString a == PySem.Str.ofString b) = (a == b) := by
  rw [Bool.eq_iff_iff, beq_iff_eq, beq_iff_eq]
  exact ofString_inj

inductive D where
  | non | bl (b : Bool) | int (i : Int) | str (x : Str) | ty (n : String) | cls (c : String)
  | lst (ds : List D) | tup (ds : List D) | rol (ds : List D) | rot (ds : List D)
  | hnd (k : Nat) | st (k : Nat)
  | exc (a d : Addr) (c : String) (fs : List (String × D))

/-- the drawing state of a law: where it stands (k 0: a list of a list of ints and an int; k 1: a list of ints, the first a place in it) -/
structure LS where
  A : Addr
  c : Addr
  k : Nat
def LS.fp (S : LS) : List Addr := if S.k = 0 then [S.A, S.c] else [S.A]
def LS.ok (S : LS) (H : Hp) : Prop := if S.k = 0 then ∃ (cells : List Int) (seed : Int), H S.A = some (.lst [.ref S.c, .int seed]) ∧ H S.c = some (.lst (cells.map V.int))
  else ∃ (j : Int) (ns : List Int), 1 ≤ j ∧ H S.A = some (.lst ((j :: ns).map V.int))
theorem LS.fr (S : LS) (H H' : Hp) (e : ∀ a ∈ S.fp, H' a = H a) (h : S.ok H) : S.ok H' := by
  unfold LS.ok at *
  unfold LS.fp at e
  by_cases z : S.k = 0
  · rw [if_pos z] at *
    obtain ⟨cells, seed, h1, h2⟩ := h
    exact ⟨cells, seed, by rw [e _ (by simp)]; exact h1, by rw [e _ (by simp)]; exact h2⟩
  · rw [if_neg z] at *
    obtain ⟨j, ns, h0, h1⟩ := h
    exact ⟨j, ns, h0, by rw [e _ (by simp)]; exact h1⟩
/-- what changes -/
inductive MO where
  | lst (ds : List D)
  | ins (C : String) (fs : List (String × D))
  | dead
/-- s: 0 no drawing state yet, 1 there is one, 2 it is opened -/
structure MM where
  M : List MO
  s : Nat
structure Wd where
  F : Hp
  th : List Addr
  S : Option LS

section
variable (K : PySem.W.Frag) (w : Wd)
mutual
def Rep : D → V → Prop
  | .non, v => v = .non
  | .bl b, v => v = .bl b
  | .int i, v => v = .int i
  | .str x, v => v = .str x
  | .ty n, v => v = .ty n
  | .cls c, v => v = .ref (kcl K c)
  | .lst ds, v => ∃ a xs, v = .ref a ∧ w.F a = some (.lst xs) ∧ RepAll ds xs
  | .tup ds, v => ∃ a xs, v = .ref a ∧ w.F a = some (.tup xs) ∧ RepAll ds xs
  | .rol ds, v => ∃ a xs, v = .ref a ∧ SqL K w.F a xs ∧ RepAll ds xs
  | .rot ds, v => ∃ a xs, v = .ref a ∧ SqT K w.F a xs ∧ RepAll ds xs
  | .hnd k, v => ∃ a, v = .ref a ∧ w.th[k]? = some a
  | .st k, v => ∃ S, w.S = some S ∧ S.k = k ∧ v = .ref S.A
  | .exc a d c fs, v => v = .ref a ∧ ∃ xs, w.F d = some (.xd xs) ∧ RepF fs xs
def RepAll : List D → List V → Prop
  | [], vs => vs = []
  | d :: ds, vs => ∃ v r, vs = v :: r ∧ Rep d v ∧ RepAll ds r
def RepF : List (String × D) → List (Str × V) → Prop
  | [], vs => vs = []
  | (f, d) :: ds, vs => ∃ v r, vs = (PySem.Str.ofString f, v) :: r ∧ Rep d v ∧ RepF ds r
end
end

/-- later worlds -/
structure Wd.le (w w' : Wd) : Prop where
  F : ∀ a o, w.F a = some o → w'.F a = some o
  th : ∀ (k : Nat) a, w.th[k]? = some a → w'.th[k]? = some a
  S : ∀ S, w.S = some S → w'.S = some S
theorem Wd.le.refl (w : Wd) : w.le w := ⟨fun _ _ h => h, fun _ _ h => h, fun _ h => h⟩
theorem Wd.le.trans {a b c : Wd} (h : a.le b) (g : b.le c) : a.le c := ⟨fun x o e => g.F x o (h.F x o e), fun k x e => g.th k x (h.th k x e), fun S e => g.S S (h.S S e)⟩

theorem sql_mono {K : PySem.W.Frag} {H H' : Hp} {a : Addr} {xs : List V} (e : ∀ a o, H a = some o → H' a = some o) (h : SqL K H a xs) : SqL K H' a xs := by
  rcases h with (h | ⟨o, h⟩) | h
  · exact .inl (.inl (e _ _ h))
  · exact .inl (.inr ⟨o, e _ _ h⟩)
  · exact .inr h
theorem sqt_mono {K : PySem.W.Frag} {H H' : Hp} {a : Addr} {xs : List V} (e : ∀ a o, H a = some o → H' a = some o) (h : SqT K H a xs) : SqT K H' a xs := by
  rcases h with (h | ⟨o, h⟩) | h
  · exact .inl (.inl (e _ _ h))
  · exact .inl (.inr ⟨o, e _ _ h⟩)
  · exact .inr h
section
variable {K : PySem.W.Frag} {w w' : Wd}
mutual
theorem Rep.mono (l : w.le w') : ∀ (d : D) (v : V), Rep K w d v → Rep K w' d v
  | .non, _, h => h
  | .bl _, _, h => h
  | .int _, _, h => h
  | .str _, _, h => h
  | .ty _, _, h => h
  | .cls _, _, h => h
  | .lst ds, _, h => by
    obtain ⟨a, xs, e, q, r⟩ := h
    exact ⟨a, xs, e, l.F _ _ q, RepAll.mono l ds xs r⟩
  | .tup ds, _, h => by
    obtain ⟨a, xs, e, q, r⟩ := h
    exact ⟨a, xs, e, l.F _ _ q, RepAll.mono l ds xs r⟩
  | .rol ds, _, h => by
    obtain ⟨a, xs, e, q, r⟩ := h
    exact ⟨a, xs, e, sql_mono l.F q, RepAll.mono l ds xs r⟩
  | .rot ds, _, h => by
    obtain ⟨a, xs, e, q, r⟩ := h
    exact ⟨a, xs, e, sqt_mono l.F q, RepAll.mono l ds xs r⟩
  | .hnd k, _, h => by
    obtain ⟨a, e, q⟩ := h
    exact ⟨a, e, l.th _ _ q⟩
  | .st _, _, h => by
    obtain ⟨S, e, q⟩ := h
    exact ⟨S, l.S _ e, q⟩
  | .exc a d c fs, _, h => by
    obtain ⟨e, xs, q, r⟩ := h
    exact ⟨e, xs, l.F _ _ q, RepF.mono l fs xs r⟩
theorem RepAll.mono (l : w.le w') : ∀ (ds : List D) (vs : List V), RepAll K w ds vs → RepAll K w' ds vs
  | [], _, h => h
  | d :: ds, _, h => by
    obtain ⟨v, r, e, a, b⟩ := h
    exact ⟨v, r, e, Rep.mono l d v a, RepAll.mono l ds r b⟩
theorem RepF.mono (l : w.le w') : ∀ (ds : List (String × D)) (vs : List (Str × V)), RepF K w ds vs → RepF K w' ds vs
  | [], _, h => h
  | (f, d) :: ds, _, h => by
    obtain ⟨v, r, e, a, b⟩ := h
    exact ⟨v, r, e, Rep.mono l d v a, RepF.mono l ds r b⟩
end
theorem RepAll.length : ∀ {ds : List D} {vs : List V}, RepAll K w ds vs → vs.length = ds.length
  | [], _, h => by
    have e : _ = [] := h
    subst e; rfl
  | d :: ds, _, h => by
    obtain ⟨v, r, e, a, b⟩ := h
    subst e
    rw [List.length_cons, List.length_cons, RepAll.length b]
theorem RepAll.get : ∀ {ds : List D} {vs : List V} {i : Nat} {d : D}, RepAll K w ds vs → ds[i]? = some d → ∃ v, vs[i]? = some v ∧ Rep K w d v
  | [], _, _, _, _, h => by simp at h
  | d :: ds, _, i, d', h, e => by
    obtain ⟨v, r, rfl, a, b⟩ := h
    cases i with
    | zero => simp at e; subst e; exact ⟨v, rfl, a⟩
    | succ i => exact RepAll.get (i := i) b (by simpa using e)
theorem RepAll.append : ∀ {ds es : List D} {vs us : List V}, RepAll K w ds vs → RepAll K w es us → RepAll K w (ds ++ es) (vs ++ us)
  | [], _, _, _, h, g => by
    have q : _ = [] := h
    subst q; exact g
  | d :: ds, _, _, _, h, g => by
    obtain ⟨v, r, rfl, a, b⟩ := h
    exact ⟨v, _, rfl, a, RepAll.append b g⟩
theorem RepAll.set : ∀ {ds : List D} {vs : List V} {d : D} {v : V} (i : Nat), RepAll K w ds vs → Rep K w d v → RepAll K w (ds.set i d) (vs.set i v)
  | [], _, _, _, _, h, _ => by
    have q : _ = [] := h
    subst q; exact rfl
  | d :: ds, _, d', v', i, h, g => by
    obtain ⟨v, r, rfl, a, b⟩ := h
    cases i with
    | zero => exact ⟨v', r, rfl, g, b⟩
    | succ i => exact ⟨v, _, rfl, a, RepAll.set i b g⟩
theorem RepAll.take : ∀ {ds : List D} {vs : List V} (n : Nat), RepAll K w ds vs → RepAll K w (ds.take n) (vs.take n)
  | [], _, n, h => by
    have q : _ = [] := h
    subst q; simp; exact rfl
  | d :: ds, _, n, h => by
    obtain ⟨v, r, rfl, a, b⟩ := h
    cases n with
    | zero => exact rfl
    | succ n => exact ⟨v, _, rfl, a, RepAll.take n b⟩
theorem RepAll.drop : ∀ {ds : List D} {vs : List V} (n : Nat), RepAll K w ds vs → RepAll K w (ds.drop n) (vs.drop n)
  | [], _, n, h => by
    have q : _ = [] := h
    subst q; simp; exact rfl
  | d :: ds, _, n, h => by
    obtain ⟨v, r, rfl, a, b⟩ := h
    cases n with
    | zero => exact ⟨v, _, rfl, a, b⟩
    | succ n => exact RepAll.drop n b
theorem RepAll.reverse {ds : List D} {vs : List V} (h : RepAll K w ds vs) : RepAll K w ds.reverse vs.reverse := by
  induction ds generalizing vs with
  | nil =>
    have q : vs = [] := h
    subst q; exact rfl
  | cons d ds ih =>
    obtain ⟨v, r, rfl, a, b⟩ := h
    rw [List.reverse_cons, List.reverse_cons]
    exact RepAll.append (ih b) ⟨v, [], rfl, a, rfl⟩
theorem RepF.look : ∀ {ds : List (String × D)} {vs : List (Str × V)} {f : String} {d : D}, RepF K w ds vs → ds.lookup f = some d → ∃ v, vs.lookup (PySem.Str.ofString f) = some v ∧ Rep K w d v
  | [], _, _, _, _, h => by simp at h
  | (g, d) :: ds, _, f, d', h, e => by
    obtain ⟨v, r, rfl, a, b⟩ := h
    rw [List.lookup_cons] at e
    rw [List.lookup_cons, ofString_beq]
    cases hb : f == g with
    | true => rw [hb] at e; simp at e; subst e; exact ⟨v, rfl, a⟩
    | false => rw [hb] at e; exact RepF.look b e
theorem RepF.none : ∀ {ds : List (String × D)} {vs : List (Str × V)} {f : String}, RepF K w ds vs → ds.lookup f = Option.none → vs.lookup (PySem.Str.ofString f) = Option.none
  | [], _, _, h, _ => by
    have q : _ = [] := h
    subst q; rfl
  | (g, d) :: ds, _, f, h, e => by
    obtain ⟨v, r, rfl, a, b⟩ := h
    rw [List.lookup_cons] at e
    rw [List.lookup_cons, ofString_beq]
    cases hb : f == g with
    | true => rw [hb] at e; simp at e
    | false => rw [hb] at e; exact RepF.none b e
theorem RepF.length : ∀ {ds : List (String × D)} {vs : List (Str × V)}, RepF K w ds vs → vs.length = ds.length
  | [], _, h => by
    have e : _ = [] := h
    subst e; rfl
  | (f, d) :: ds, _, h => by
    obtain ⟨v, r, e, a, b⟩ := h
    subst e
    rw [List.length_cons, List.length_cons, RepF.length b]
def putD (f : String) (v : D) : List (String × D) → List (String × D)
  | [] => [(f, v)]
  | (g, x) :: r => if g = f then (g, v) :: r else (g, x) :: putD f v r
theorem RepF.put {f : String} {d : D} {v : V} (g : Rep K w d v) : ∀ {ds : List (String × D)} {vs : List (Str × V)}, RepF K w ds vs → RepF K w (putD f d ds) (putF (PySem.Str.ofString f) v vs)
  | [], _, h => by
    have q : _ = [] := h
    subst q; exact ⟨v, [], rfl, g, rfl⟩
  | (k, d') :: ds, _, h => by
    obtain ⟨u, r, rfl, a, b⟩ := h
    unfold putD putF
    by_cases e : k = f
    · rw [if_pos e, if_pos (ofString_inj.mpr e)]; exact ⟨v, r, by rw [e], g, b⟩
    · rw [if_neg e, if_neg (fun z => e (ofString_inj.mp z))]; exact ⟨u, _, rfl, a, RepF.put g b⟩
end

def ORep (K : PySem.W.Frag) (w : Wd) (H : Hp) (a : Addr) : MO → Prop
  | .lst ds => ∃ xs, H a = some (.lst xs) ∧ RepAll K w ds xs
  | .ins C fs => ∃ dx vs, H a = some (.ins (kcl K C) dx vs) ∧ RepF K w fs vs
  | .dead => ∃ o, H a = some o
theorem ORep.mono {K : PySem.W.Frag} {w w' : Wd} {H H' : Hp} {a : Addr} (l : w.le w') (e : H' a = H a) : ∀ {o : MO}, ORep K w H a o → ORep K w' H' a o
  | .lst ds, h => by
    obtain ⟨xs, q, r⟩ := h
    exact ⟨xs, e.trans q, RepAll.mono l _ _ r⟩
  | .ins C fs, h => by
    obtain ⟨dx, vs, q, r⟩ := h
    exact ⟨dx, vs, e.trans q, RepF.mono l _ _ r⟩
  | .dead, h => by
    obtain ⟨o, q⟩ := h
    exact ⟨o, e.trans q⟩
theorem ORep.there {K : PySem.W.Frag} {w : Wd} {H : Hp} {a : Addr} : ∀ {o : MO}, ORep K w H a o → ∃ o, H a = Option.some o
  | .lst _, ⟨_, q, _⟩ => ⟨_, q⟩
  | .ins _ _, ⟨_, _, q, _⟩ => ⟨_, q⟩
  | .dead, h => h
/-- the heap bears the world and the store -/
structure HRep (K : PySem.W.Frag) (w : Wd) (m : MM) (H : Hp) : Prop where
  ext : ∀ a o, w.F a = some o → H a = some o
  len : w.th.length = m.M.length
  nd : w.th.Nodup
  obj : ∀ (k : Nat) a o, w.th[k]? = some a → m.M[k]? = some o → ORep K w H a o
  thF : ∀ (k : Nat) a o, w.th[k]? = some a → m.M[k]? = some o → o ≠ .dead → w.F a = none
  ls : m.s = 1 → ∀ S, w.S = some S → S.ok H ∧ ∀ a ∈ S.fp, w.F a = none ∧ a ∉ w.th ∧ ∃ o, H a = some o
  flag : (m.s = 0 → w.S = none) ∧ (m.s = 1 → w.S.isSome = true)

abbrev Env := List (Option D)
abbrev XP := String → List (String × D) → MM → Prop
abbrev DE := Env → MM → (D → MM → Prop) → XP → Prop
abbrev DA := Env → MM → (List D → MM → Prop) → XP → Prop
abbrev DT := Env → MM → (Bool → MM → Prop) → XP → Prop
structure DN where
  nx : Env → MM → Prop
  rt : D → MM → Prop
  bk : Env → MM → Prop := fun _ _ => False
  ct : Env → MM → Prop := fun _ _ => False
def Slots (K : PySem.W.Frag) (w : Wd) (σ : St) (ρ : Env) : Prop := σ.length = ρ.length ∧ ∀ (i : Nat) d, ρ[i]? = some (some d) → ∃ v, σ[i]? = some (some v) ∧ Rep K w d v
theorem Slots.mono {K : PySem.W.Frag} {w w' : Wd} {σ : St} {ρ : Env} (l : w.le w') (h : Slots K w σ ρ) : Slots K w' σ ρ := ⟨h.1, fun i d e => let ⟨v, a, b⟩ := h.2 i d e; ⟨v, a, Rep.mono l _ _ b⟩⟩
theorem Slots.set {K : PySem.W.Frag} {w : Wd} {σ : St} {ρ : Env} {d : D} {v : V} (i : Nat) (h : Slots K w σ ρ) (r : Rep K w d v) : Slots K w (σ.set i (some v)) (ρ.set i (some d)) := by
  refine ⟨by rw [List.length_set, List.length_set]; exact h.1, fun j d' e => ?_⟩
  by_cases hj : i = j
  · subst hj
    have hl : i < ρ.length := by
      rcases Nat.lt_or_ge i ρ.length with q | q
      · exact q
      · rw [List.getElem?_eq_none (by simpa using q)] at e; cases e
    rw [List.getElem?_set_self hl] at e
    cases e
    exact ⟨v, by rw [List.getElem?_set_self (by rw [h.1]; exact hl)], r⟩
  · rw [List.getElem?_set_ne hj] at e
    obtain ⟨u, a, b⟩ := h.2 j d' e
    exact ⟨u, by rw [List.getElem?_set_ne hj]; exact a, b⟩
theorem Slots.wipe {K : PySem.W.Frag} {w : Wd} {σ : St} {ρ : Env} (h : Slots K w σ ρ) (i : Nat) : Slots K w (σ.set i none) (ρ.set i none) := by
  refine ⟨by rw [List.length_set, List.length_set]; exact h.1, fun j d' e => ?_⟩
  by_cases hj : i = j
  · subst hj
    by_cases hl : i < ρ.length
    · rw [List.getElem?_set_self hl] at e; cases e
    · rw [List.getElem?_eq_none (by simpa using hl)] at e; cases e
  · rw [List.getElem?_set_ne hj] at e
    obtain ⟨u, a, b⟩ := h.2 j d' e
    exact ⟨u, by rw [List.getElem?_set_ne hj]; exact a, b⟩

def XLift (K : PySem.W.Frag) (w : Wd) (E : WX) (σ : St) (Ψ : XP) : Prop := ∀ C fs m' w' H' d xs, w.le w' → HRep K w' m' H' → w'.F d = some (.xd xs) → RepF K w' fs xs → Ψ C fs m' → E (.ref (kcl K C)) (some d) σ H'
theorem XLift.mono {K : PySem.W.Frag} {w w' : Wd} {E : WX} {σ : St} {Ψ : XP} (l : w.le w') (h : XLift K w E σ Ψ) : XLift K w' E σ Ψ := fun C fs m' w2 H' d xs l2 a b c q => h C fs m' w2 H' d xs (l.trans l2) a b c q
def VLift (K : PySem.W.Frag) (w : Wd) (Q : VK) (Φ : D → MM → Prop) : Prop := ∀ d m' w' H' v, w.le w' → HRep K w' m' H' → Rep K w' d v → Φ d m' → Q v H'
theorem VLift.mono {K : PySem.W.Frag} {w w' : Wd} {Q : VK} {Φ : D → MM → Prop} (l : w.le w') (h : VLift K w Q Φ) : VLift K w' Q Φ := fun d m' w2 H' v l2 a b c => h d m' w2 H' v (l.trans l2) a b c
def SLift (K : PySem.W.Frag) (w : Wd) (Q : St → Hp → Prop) (Φ : Env → MM → Prop) : Prop := ∀ ρ m' w' H' σ, w.le w' → HRep K w' m' H' → Slots K w' σ ρ → Φ ρ m' → Q σ H'
theorem SLift.mono {K : PySem.W.Frag} {w w' : Wd} {Q : St → Hp → Prop} {Φ : Env → MM → Prop} (l : w.le w') (h : SLift K w Q Φ) : SLift K w' Q Φ := fun d m' w2 H' v l2 a b c => h d m' w2 H' v (l.trans l2) a b c
structure NLift (K : PySem.W.Frag) (w : Wd) (D : Ends) (N : DN) : Prop where
  nx : SLift K w D.nx N.nx
  rt : VLift K w D.rt N.rt
  bk : SLift K w D.bk N.bk
  ct : SLift K w D.ct N.ct
theorem NLift.mono {K : PySem.W.Frag} {w w' : Wd} {D : Ends} {N : DN} (l : w.le w') (h : NLift K w D N) : NLift K w' D N := ⟨h.nx.mono l, h.rt.mono l, h.bk.mono l, h.ct.mono l⟩

abbrev XS := Env → XP
def SX (K : PySem.W.Frag) (w : Wd) (E : WX) (Ψ : XS) : Prop := ∀ ρ σ w1, w.le w1 → Slots K w1 σ ρ → XLift K w1 E σ (Ψ ρ)
theorem SX.mono {K : PySem.W.Frag} {w w' : Wd} {E : WX} {Ψ : XS} (l : w.le w') (h : SX K w E Ψ) : SX K w' E Ψ := fun ρ σ w1 l1 s => h ρ σ w1 (l.trans l1) s
structure At (K : PySem.W.Frag) (E : WX) (w : Wd) (σ : St) (H : Hp) (ρ : Env) (m : MM) (Ψ : XP) : Prop where
  h : HRep K w m H
  s : Slots K w σ ρ
  x : XLift K w E σ Ψ
theorem At.to {K : PySem.W.Frag} {E : WX} {w w' : Wd} {σ : St} {H H' : Hp} {ρ : Env} {m m' : MM} {Ψ : XP} (a : At K E w σ H ρ m Ψ) (l : w.le w') (h : HRep K w' m' H') : At K E w' σ H' ρ m' Ψ := ⟨h, a.s.mono l, a.x.mono l⟩
structure AtS (K : PySem.W.Frag) (E : WX) (w : Wd) (σ : St) (H : Hp) (ρ : Env) (m : MM) (Ψ : XS) : Prop where
  h : HRep K w m H
  s : Slots K w σ ρ
  x : SX K w E Ψ
theorem AtS.to {K : PySem.W.Frag} {E : WX} {w w' : Wd} {σ : St} {H H' : Hp} {ρ : Env} {m m' : MM} {Ψ : XS} (a : AtS K E w σ H ρ m Ψ) (l : w.le w') (h : HRep K w' m' H') : AtS K E w' σ H' ρ m' Ψ := ⟨h, a.s.mono l, a.x.mono l⟩
theorem AtS.at {K : PySem.W.Frag} {E : WX} {w : Wd} {σ : St} {H : Hp} {ρ : Env} {m : MM} {Ψ : XS} (a : AtS K E w σ H ρ m Ψ) : At K E w σ H ρ m (Ψ ρ) := ⟨a.h, a.s, a.x ρ σ w (Wd.le.refl w) a.s⟩
abbrev DS := DN → XS → Env → MM → Prop
def lift (K : PySem.W.Frag) (E : WX) (W : DE) : TE := fun σ H Q => ∃ w ρ m Ψ Φ, At K E w σ H ρ m Ψ ∧ VLift K w Q Φ ∧ W ρ m Φ Ψ
def liftA (K : PySem.W.Frag) (E : WX) (W : DA) : TA := fun σ H Q => ∃ w ρ m Ψ Φ, At K E w σ H ρ m Ψ ∧ (∀ ds m' w' H' vs, w.le w' → HRep K w' m' H' → RepAll K w' ds vs → Φ ds m' → Q vs H') ∧ W ρ m Φ Ψ
def liftT (K : PySem.W.Frag) (E : WX) (W : DT) : TT := fun σ H Q => ∃ w ρ m Ψ Φ, At K E w σ H ρ m Ψ ∧ (∀ b m' w' H', w.le w' → HRep K w' m' H' → Φ b m' → Q b H') ∧ W ρ m Φ Ψ
def liftS (K : PySem.W.Frag) (E : WX) (W : DS) : TS := fun D σ H => ∃ w ρ m Ψ N, AtS K E w σ H ρ m Ψ ∧ NLift K w D N ∧ W N Ψ ρ m

/-! ### judgements -/
abbrev JE (X : Cx) (E : WX) (e : Expr) (W : DE) : Prop := PE X e (lift X.K E W)
abbrev JA (X : Cx) (E : WX) (es : List Expr) (W : DA) : Prop := PA X es (liftA X.K E W)
abbrev JT (X : Cx) (E : WX) (e : Expr) (W : DT) : Prop := PT X e (liftT X.K E W)
abbrev JW (X : Cx) (E : WX) (e : Expr) (W : DT) : Prop := PW X e (liftT X.K E W)
abbrev JS (X : Cx) (E : WX) (st : Stmt) (W : DS) : Prop := PS X st (liftS X.K E W)
abbrev JSs (X : Cx) (E : WX) (st : List Stmt) (W : DS) : Prop := PSs X st (liftS X.K E W)
theorem PE.imp {X : Cx} {e : Expr} {t t' : TE} (h : PE X e t) (i : ∀ σ H Q, t' σ H Q → t σ H Q) : PE X e t' := ⟨fun pins s σ H Q I q => h.run pins s σ H Q I (i σ H Q q)⟩
theorem PA.imp {X : Cx} {e : List Expr} {t t' : TA} (h : PA X e t) (i : ∀ σ H Q, t' σ H Q → t σ H Q) : PA X e t' := ⟨fun pos pins s σ H Q I q => h.run pos pins s σ H Q I (i σ H Q q)⟩
theorem PT.imp {X : Cx} {e : Expr} {t t' : TT} (h : PT X e t) (i : ∀ σ H Q, t' σ H Q → t σ H Q) : PT X e t' := ⟨fun pins s σ H Q I q => h.run pins s σ H Q I (i σ H Q q)⟩
theorem PW.imp {X : Cx} {e : Expr} {t t' : TT} (h : PW X e t) (i : ∀ σ H Q, t' σ H Q → t σ H Q) : PW X e t' := ⟨fun wh pins s σ H Q I q => h.run wh pins s σ H Q I (i σ H Q q)⟩
theorem PS.imp {X : Cx} {e : Stmt} {t t' : TS} (h : PS X e t) (i : ∀ D σ H, t' D σ H → t D σ H) : PS X e t' := ⟨fun pins s σ H D I q => h.run pins s σ H D I (i D σ H q)⟩
theorem PSs.imp {X : Cx} {e : List Stmt} {t t' : TS} (h : PSs X e t) (i : ∀ D σ H, t' D σ H → t D σ H) : PSs X e t' := ⟨fun pins s σ H D I q => h.run pins s σ H D I (i D σ H q)⟩
end Dl

namespace Dl
open PySem L2
section
variable {K : PySem.W.Frag} {w w' : Wd} {m m' : MM} {H H' : Hp} {p a : Addr} {ho : HO} {k : Nat}

theorem HRep.thO (h : HRep K w m H) {k : Nat} {a : Addr} (e : w.th[k]? = some a) : ∃ o, m.M[k]? = some o ∧ ORep K w H a o := by
  have hk : k < w.th.length := (List.getElem?_eq_some_iff.mp e).1
  rw [h.len] at hk
  exact ⟨m.M[k], List.getElem?_eq_getElem hk, h.obj k a _ e (List.getElem?_eq_getElem hk)⟩
theorem HRep.thH (h : HRep K w m H) {a : Addr} (e : a ∈ w.th) : ∃ o, H a = some o := by
  obtain ⟨k, hk, rfl⟩ := List.mem_iff_getElem.mp e
  obtain ⟨o, _, q⟩ := h.thO (List.getElem?_eq_getElem hk)
  exact q.there
theorem HRep.nof (h : HRep K w m H) (hp : H p = none) : w.F p = none := by
  cases q : w.F p with
  | none => rfl
  | some o => rw [h.ext p o q] at hp; cases hp
theorem HRep.not (h : HRep K w m H) (hp : H p = none) : p ∉ w.th := fun z => by
  obtain ⟨o, q⟩ := h.thH z
  rw [hp] at q; cases q

/-- a new frozen object -/
def Wd.put (w : Wd) (p : Addr) (ho : HO) : Wd := ⟨upd w.F p ho, w.th, w.S⟩
theorem Wd.le_put (h : w.F p = none) : w.le (w.put p ho) := ⟨fun a o e => by show upd w.F p ho a = some o; rw [upd_ne (ne_of_none e h)]; exact e, fun _ _ e => e, fun _ e => e⟩
theorem ex_new (hp : H p = none) : ∀ a o, H a = some o → upd H p ho a = some o := fun a o e => by rw [upd_ne (ne_of_none e hp)]; exact e
theorem HRep.put (h : HRep K w m H) (hp : H p = none) : HRep K (w.put p ho) m (upd H p ho) where
  ext := fun a o q => by
    have q : upd w.F p ho a = some o := q
    by_cases e : a = p
    · subst e; rw [upd_same] at q ⊢; exact q
    · rw [upd_ne e] at q ⊢; exact h.ext a o q
  len := h.len
  nd := h.nd
  obj := fun k a o q1 q2 => by
    have z := h.obj k a o q1 q2
    have ne : a ≠ p := fun e => h.not hp (by rw [← e]; exact List.mem_of_getElem? q1)
    exact z.mono (Wd.le_put (h.nof hp)) (upd_ne ne)
  thF := fun k a o q1 q2 q3 => by
    have ne : a ≠ p := fun e => h.not hp (by rw [← e]; exact List.mem_of_getElem? q1)
    show upd w.F p ho a = none
    rw [upd_ne ne]; exact h.thF k a o q1 q2 q3
  ls := fun s1 S q => by
    obtain ⟨h1, h2⟩ := h.ls s1 S q
    have ne : ∀ a ∈ S.fp, a ≠ p := fun a ha e => by
      obtain ⟨_, _, o, ho⟩ := h2 a ha
      rw [e, hp] at ho; cases ho
    refine ⟨S.fr H _ (fun a ha => upd_ne (ne a ha)) h1, fun a ha => ?_⟩
    obtain ⟨q1, q2, o, q3⟩ := h2 a ha
    refine ⟨?_, q2, o, by rw [upd_ne (ne a ha)]; exact q3⟩
    show upd w.F p ho a = none
    rw [upd_ne (ne a ha)]; exact q1
  flag := h.flag
theorem rep_put_lst {ds : List D} {xs : List V} (h : HRep K w m H) (hp : H p = none) (r : RepAll K w ds xs) : Rep K (w.put p (.lst xs)) (.lst ds) (.ref p) :=
  ⟨p, xs, rfl, upd_same, RepAll.mono (Wd.le_put (h.nof hp)) _ _ r⟩
theorem rep_put_tup {ds : List D} {xs : List V} (h : HRep K w m H) (hp : H p = none) (r : RepAll K w ds xs) : Rep K (w.put p (.tup xs)) (.tup ds) (.ref p) :=
  ⟨p, xs, rfl, upd_same, RepAll.mono (Wd.le_put (h.nof hp)) _ _ r⟩

/-- a new changing object -/
def Wd.add (w : Wd) (p : Addr) : Wd := ⟨w.F, w.th ++ [p], w.S⟩
def MM.push (m : MM) (o : MO) : MM := ⟨m.M ++ [o], m.s⟩
theorem Wd.le_add : w.le (w.add p) := ⟨fun _ _ e => e, fun k a e => by
  show (w.th ++ [p])[k]? = some a
  rw [List.getElem?_append_left (List.getElem?_eq_some_iff.mp e).1]; exact e, fun _ e => e⟩
theorem HRep.add {o : MO} (h : HRep K w m H) (hp : H p = none) (ob : ORep K (w.add p) (upd H p ho) p o) : HRep K (w.add p) (m.push o) (upd H p ho) where
  ext := fun a o q => ex_new hp a o (h.ext a o q)
  len := by show (w.th ++ [p]).length = (m.M ++ [o]).length; rw [List.length_append, List.length_append, h.len]; rfl
  nd := by
    show (w.th ++ [p]).Nodup
    rw [List.nodup_append]
    refine ⟨h.nd, by simp, fun a ha b hb e => ?_⟩
    have e2 : b = p := by simpa using hb
    subst e2; subst e
    exact h.not hp ha
  obj := fun k a o' q1 q2 => by
    have q1 : (w.th ++ [p])[k]? = some a := q1
    have q2 : (m.M ++ [o])[k]? = some o' := q2
    rcases Nat.lt_or_ge k w.th.length with hk | hk
    · rw [List.getElem?_append_left hk] at q1
      rw [List.getElem?_append_left (by rw [← h.len]; exact hk)] at q2
      have ne : a ≠ p := fun e => h.not hp (by rw [← e]; exact List.mem_of_getElem? q1)
      exact (h.obj k a o' q1 q2).mono Wd.le_add (upd_ne ne)
    · rw [List.getElem?_append_right hk] at q1
      rw [List.getElem?_append_right (by rw [← h.len]; exact hk)] at q2
      have hk2 : k = w.th.length := by
        have z := (List.getElem?_eq_some_iff.mp q1).1
        simp at z; omega
      subst hk2
      rw [Nat.sub_self] at q1
      rw [h.len, Nat.sub_self] at q2
      simp at q1 q2
      subst q1; subst q2
      exact ob
  thF := fun k a o' q1 q2 q3 => by
    have q1 : (w.th ++ [p])[k]? = some a := q1
    have q2 : (m.M ++ [o])[k]? = some o' := q2
    show w.F a = none
    rcases Nat.lt_or_ge k w.th.length with hk | hk
    · rw [List.getElem?_append_left hk] at q1
      rw [List.getElem?_append_left (by rw [← h.len]; exact hk)] at q2
      exact h.thF k a o' q1 q2 q3
    · rw [List.getElem?_append_right hk] at q1
      have z : a ∈ [p] := List.mem_of_getElem? q1
      have e : a = p := by simpa using z
      rw [e]; exact h.nof hp
  ls := fun s1 S q => by
    obtain ⟨h1, h2⟩ := h.ls s1 S q
    have ne : ∀ a ∈ S.fp, a ≠ p := fun a ha e => by
      obtain ⟨_, _, o, ho⟩ := h2 a ha
      rw [e, hp] at ho; cases ho
    refine ⟨S.fr H _ (fun a ha => upd_ne (ne a ha)) h1, fun a ha => ?_⟩
    obtain ⟨q1, q2, o, q3⟩ := h2 a ha
    refine ⟨q1, ?_, o, by rw [upd_ne (ne a ha)]; exact q3⟩
    show a ∉ w.th ++ [p]
    simp only [List.mem_append, List.mem_singleton, not_or]
    exact ⟨q2, ne a ha⟩
  flag := h.flag
theorem rep_add (h : HRep K w m H) : Rep K (w.add p) (.hnd m.M.length) (.ref p) := ⟨p, rfl, by
  show (w.th ++ [p])[m.M.length]? = some p
  rw [← h.len, List.getElem?_append_right (Nat.le_refl _)]; simp⟩

/-- a changing object is written -/
theorem HRep.wr {o o' : MO} (h : HRep K w m H) (e : w.th[k]? = some a) (eo : m.M[k]? = some o) (hd : o ≠ .dead) (ob : ORep K w (upd H a ho) a o') : HRep K w ⟨m.M.set k o', m.s⟩ (upd H a ho) where
  ext := fun b u q => by
    have ne : b ≠ a := fun z => by rw [z, h.thF k a o e eo hd] at q; cases q
    rw [upd_ne ne]; exact h.ext b u q
  len := by show w.th.length = (m.M.set k o').length; rw [List.length_set]; exact h.len
  nd := h.nd
  obj := fun j b u q1 q2 => by
    have q2 : (m.M.set k o')[j]? = some u := q2
    by_cases hj : k = j
    · subst hj
      rw [e] at q1; cases q1
      rw [List.getElem?_set_self (List.getElem?_eq_some_iff.mp eo).1] at q2
      cases q2; exact ob
    · rw [List.getElem?_set_ne hj] at q2
      have ne : b ≠ a := fun z => hj (by
        subst z
        obtain ⟨k1, k2⟩ := List.getElem?_eq_some_iff.mp e
        obtain ⟨j1, j2⟩ := List.getElem?_eq_some_iff.mp q1
        exact (List.getElem_inj h.nd).mp (k2.trans j2.symm))
      exact (h.obj j b u q1 q2).mono (Wd.le.refl w) (upd_ne ne)
  thF := fun j b u q1 q2 q3 => by
    have q2 : (m.M.set k o')[j]? = some u := q2
    by_cases hj : k = j
    · subst hj
      rw [e] at q1; cases q1
      exact h.thF k a o e eo hd
    · rw [List.getElem?_set_ne hj] at q2
      exact h.thF j b u q1 q2 q3
  ls := fun s1 S q => by
    obtain ⟨h1, h2⟩ := h.ls s1 S q
    have ne : ∀ b ∈ S.fp, b ≠ a := fun b hb z => (h2 b hb).2.1 (by rw [z]; exact List.mem_of_getElem? e)
    refine ⟨S.fr H _ (fun b hb => upd_ne (ne b hb)) h1, fun b hb => ?_⟩
    obtain ⟨q1, q2, o, q3⟩ := h2 b hb
    exact ⟨q1, q2, o, by rw [upd_ne (ne b hb)]; exact q3⟩
  flag := h.flag
/-- a changing list is frozen -/
theorem HRep.frz {ds : List D} (h : HRep K w m H) (e : w.th[k]? = some a) (eo : m.M[k]? = some (.lst ds)) : ∃ xs, w.F a = none ∧ H a = some (.lst xs) ∧ RepAll K w ds xs ∧ HRep K (w.put a (.lst xs)) ⟨m.M.set k .dead, m.s⟩ H := by
  obtain ⟨xs, hx, r⟩ := h.obj k a _ e eo
  have fa := h.thF k a _ e eo (fun z => by cases z)
  refine ⟨xs, fa, hx, r, ?_⟩
  have le := Wd.le_put (ho := .lst xs) fa
  have nea : ∀ {j : Nat} {b : Addr}, w.th[j]? = some b → b = a → k = j := fun {j b} q1 z => by
    subst z
    obtain ⟨k1, k2⟩ := List.getElem?_eq_some_iff.mp e
    obtain ⟨j1, j2⟩ := List.getElem?_eq_some_iff.mp q1
    exact (List.getElem_inj h.nd).mp (k2.trans j2.symm)
  exact {
    ext := fun b u q => by
      have q : upd w.F a (.lst xs) b = some u := q
      by_cases z : b = a
      · subst z; rw [upd_same] at q; cases q; exact hx
      · rw [upd_ne z] at q; exact h.ext b u q
    len := by show w.th.length = (m.M.set k .dead).length; rw [List.length_set]; exact h.len
    nd := h.nd
    obj := fun j b u q1 q2 => by
      have q2 : (m.M.set k .dead)[j]? = some u := q2
      by_cases hj : k = j
      · subst hj
        have q1 : w.th[k]? = some b := q1
        rw [e] at q1; cases q1
        rw [List.getElem?_set_self (List.getElem?_eq_some_iff.mp eo).1] at q2
        cases q2; exact ⟨_, hx⟩
      · rw [List.getElem?_set_ne hj] at q2
        exact (h.obj j b u q1 q2).mono le rfl
    thF := fun j b u q1 q2 q3 => by
      have q2 : (m.M.set k .dead)[j]? = some u := q2
      have q1 : w.th[j]? = some b := q1
      by_cases hj : k = j
      · subst hj
        rw [List.getElem?_set_self (List.getElem?_eq_some_iff.mp eo).1] at q2
        cases q2; exact absurd rfl q3
      · rw [List.getElem?_set_ne hj] at q2
        show upd w.F a (.lst xs) b = none
        rw [upd_ne (fun z => hj (nea q1 z))]
        exact h.thF j b u q1 q2 q3
    ls := fun s1 S q => by
      obtain ⟨h1, h2⟩ := h.ls s1 S q
      refine ⟨h1, fun b hb => ?_⟩
      obtain ⟨q1, q2, o, q3⟩ := h2 b hb
      refine ⟨?_, q2, o, q3⟩
      show upd w.F a (.lst xs) b = none
      rw [upd_ne (fun z => q2 (by rw [z]; exact List.mem_of_getElem? e))]; exact q1
    flag := h.flag }
/-- the last objects are let go -/
def Wd.cut (w : Wd) (n : Nat) : Wd := ⟨w.F, w.th.take n, w.S⟩
def MM.cut (m : MM) (n : Nat) : MM := ⟨m.M.take n, m.s⟩
mutual
def clD (n : Nat) : D → Bool
  | .hnd k => decide (k < n)
  | .lst ds => clAll n ds
  | .tup ds => clAll n ds
  | .rol ds => clAll n ds
  | .rot ds => clAll n ds
  | .exc _ _ _ fs => clF n fs
  | _ => true
def clAll (n : Nat) : List D → Bool
  | [] => true
  | d :: ds => clD n d && clAll n ds
def clF (n : Nat) : List (String × D) → Bool
  | [] => true
  | (_, d) :: ds => clD n d && clF n ds
end
def clO (n : Nat) : MO → Bool
  | .lst ds => clAll n ds
  | .ins _ fs => clF n fs
  | .dead => true
mutual
theorem Rep.cl : ∀ (d : D) (v : V), Rep K w d v → clD w.th.length d = true
  | .non, _, _ => rfl
  | .bl _, _, _ => rfl
  | .int _, _, _ => rfl
  | .str _, _, _ => rfl
  | .ty _, _, _ => rfl
  | .cls _, _, _ => rfl
  | .st _, _, _ => rfl
  | .lst ds, _, ⟨_, xs, _, _, r⟩ => RepAll.cl ds xs r
  | .tup ds, _, ⟨_, xs, _, _, r⟩ => RepAll.cl ds xs r
  | .rol ds, _, ⟨_, xs, _, _, r⟩ => RepAll.cl ds xs r
  | .rot ds, _, ⟨_, xs, _, _, r⟩ => RepAll.cl ds xs r
  | .exc _ _ _ fs, _, ⟨_, xs, _, r⟩ => RepF.cl fs xs r
  | .hnd k, _, ⟨a, _, q⟩ => by
    show decide (k < w.th.length) = true
    exact decide_eq_true (List.getElem?_eq_some_iff.mp q).1
theorem RepAll.cl : ∀ (ds : List D) (vs : List V), RepAll K w ds vs → clAll w.th.length ds = true
  | [], _, _ => rfl
  | d :: ds, _, ⟨v, r, _, a, b⟩ => by
    show (clD _ d && clAll _ ds) = true
    rw [Rep.cl d v a, RepAll.cl ds r b]; rfl
theorem RepF.cl : ∀ (ds : List (String × D)) (vs : List (Str × V)), RepF K w ds vs → clF w.th.length ds = true
  | [], _, _ => rfl
  | (f, d) :: ds, _, ⟨v, r, _, a, b⟩ => by
    show (clD _ d && clF _ ds) = true
    rw [Rep.cl d v a, RepF.cl ds r b]; rfl
end
mutual
theorem Rep.cut {n : Nat} : ∀ (d : D) (v : V), Rep K w d v → clD n d = true → Rep K (w.cut n) d v
  | .non, _, h, _ => h
  | .bl _, _, h, _ => h
  | .int _, _, h, _ => h
  | .str _, _, h, _ => h
  | .ty _, _, h, _ => h
  | .cls _, _, h, _ => h
  | .st _, _, h, _ => h
  | .lst ds, _, ⟨a, xs, e, q, r⟩, c => ⟨a, xs, e, q, RepAll.cut ds xs r c⟩
  | .tup ds, _, ⟨a, xs, e, q, r⟩, c => ⟨a, xs, e, q, RepAll.cut ds xs r c⟩
  | .rol ds, _, ⟨a, xs, e, q, r⟩, c => ⟨a, xs, e, q, RepAll.cut ds xs r c⟩
  | .rot ds, _, ⟨a, xs, e, q, r⟩, c => ⟨a, xs, e, q, RepAll.cut ds xs r c⟩
  | .exc _ _ _ fs, _, ⟨e, xs, q, r⟩, c => ⟨e, xs, q, RepF.cut fs xs r c⟩
  | .hnd k, _, ⟨a, e, q⟩, c => ⟨a, e, by
    have c : decide (k < n) = true := c
    have c := of_decide_eq_true c
    show (w.th.take n)[k]? = some a
    rw [List.getElem?_take_of_lt c]; exact q⟩
theorem RepAll.cut {n : Nat} : ∀ (ds : List D) (vs : List V), RepAll K w ds vs → clAll n ds = true → RepAll K (w.cut n) ds vs
  | [], _, h, _ => h
  | d :: ds, _, ⟨v, r, e, a, b⟩, c => by
    have c : (clD n d && clAll n ds) = true := c
    rw [Bool.and_eq_true] at c
    exact ⟨v, r, e, Rep.cut d v a c.1, RepAll.cut ds r b c.2⟩
theorem RepF.cut {n : Nat} : ∀ (ds : List (String × D)) (vs : List (Str × V)), RepF K w ds vs → clF n ds = true → RepF K (w.cut n) ds vs
  | [], _, h, _ => h
  | (f, d) :: ds, _, ⟨v, r, e, a, b⟩, c => by
    have c : (clD n d && clF n ds) = true := c
    rw [Bool.and_eq_true] at c
    exact ⟨v, r, e, Rep.cut d v a c.1, RepF.cut ds r b c.2⟩
end
theorem ORep.cut {n : Nat} : ∀ {o : MO}, ORep K w H a o → clO n o = true → ORep K (w.cut n) H a o
  | .lst ds, ⟨xs, q, r⟩, c => ⟨xs, q, RepAll.cut ds xs r c⟩
  | .ins C fs, ⟨dx, vs, q, r⟩, c => ⟨dx, vs, q, RepF.cut fs vs r c⟩
  | .dead, h, _ => h
theorem ORep.cl : ∀ {o : MO}, ORep K w H a o → clO w.th.length o = true
  | .lst ds, ⟨xs, q, r⟩ => RepAll.cl ds xs r
  | .ins C fs, ⟨dx, vs, q, r⟩ => RepF.cl fs vs r
  | .dead, h => rfl
theorem HRep.cut {n : Nat} (h : HRep K w m H) (c : ∀ o ∈ m.M.take n, clO n o = true) : HRep K (w.cut n) (m.cut n) H where
  ext := h.ext
  len := by show (w.th.take n).length = (m.M.take n).length; rw [List.length_take, List.length_take, h.len]
  nd := h.nd.sublist (List.take_sublist _ _)
  obj := fun k a o q1 q2 => by
    have q1 : (w.th.take n)[k]? = some a := q1
    have q2 : (m.M.take n)[k]? = some o := q2
    have hk : k < n := by
      have z := (List.getElem?_eq_some_iff.mp q1).1
      rw [List.length_take] at z; omega
    have cc := c o (List.mem_of_getElem? q2)
    rw [List.getElem?_take_of_lt hk] at q1 q2
    exact (h.obj k a o q1 q2).cut cc
  thF := fun k a o q1 q2 q3 => by
    have q1 : (w.th.take n)[k]? = some a := q1
    have q2 : (m.M.take n)[k]? = some o := q2
    have hk : k < n := by
      have z := (List.getElem?_eq_some_iff.mp q1).1
      rw [List.length_take] at z; omega
    rw [List.getElem?_take_of_lt hk] at q1 q2
    exact h.thF k a o q1 q2 q3
  ls := fun s1 S q => by
    obtain ⟨h1, h2⟩ := h.ls s1 S q
    exact ⟨h1, fun a ha => ⟨(h2 a ha).1, fun z => (h2 a ha).2.1 (List.mem_of_mem_take z), (h2 a ha).2.2⟩⟩
  flag := h.flag
/-- objects as they were at an entry bear no later handles -/
theorem HRep.cls (h : HRep K w m H) : ∀ o ∈ m.M, clO m.M.length o = true := fun o ho => by
  obtain ⟨k, hk, rfl⟩ := List.mem_iff_getElem.mp ho
  have hk2 : k < w.th.length := by rw [h.len]; exact hk
  have z := (h.obj k _ _ (List.getElem?_eq_getElem hk2) (List.getElem?_eq_getElem hk)).cl
  rw [h.len] at z; exact z
theorem Wd.le_cut {w0 : Wd} {n : Nat} (l : w0.le w) (hn : w0.th.length ≤ n) : w0.le (w.cut n) := ⟨l.F, fun k a e => by
  show (w.th.take n)[k]? = some a
  rw [List.getElem?_take_of_lt (Nat.lt_of_lt_of_le (List.getElem?_eq_some_iff.mp e).1 hn)]; exact l.th k a e, l.S⟩
end
end Dl

namespace Dl
open PySem L2 PyProof.Rows

/-! ### expressions -/
def dVar (i : Nat) : DE := fun ρ m Φ _ => match ρ[i]? with
  | some (some d) => Φ d m
  | _ => False
def dC (d : D) : DE := fun _ m Φ _ => Φ d m
section
variable {X : Cx} {E : WX} {a b c : Expr} {Wa Wb Wc : DE} {pos : Pos}
theorem je_var (i : Nat) {x : Str} {pos : Pos} (hN : X.N[i]? = some x := by rfl) (hv : Vis X.env.scope x := by first | exact Or.inl rfl | exact Or.inr (Or.inl rfl) | exact Or.inr (Or.inr rfl)) (hd : (x == ("__debug__" : Str)) = false := by decide)
    (hcd : (x == ("__classdict__" : Str)) = false := by decide) : JE X E (.Name x pos) (dVar i) := PE.imp (pe_var hN hv hd hcd) fun σ H Q ⟨w, ρ, m, Ψ, Φ, a, vl, h⟩ => by
  unfold dVar at h
  split at h
  · rename_i d e
    obtain ⟨v, e1, r⟩ := a.s.2 i d e
    exact ⟨v, e1, vl d m w H v (.refl w) a.h r h⟩
  · exact h.elim
theorem je_of {e : Expr} {v : V} {d : D} (h : PE X e (tC v)) (r : ∀ w, Rep X.K w d v) : JE X E e (dC d) := PE.imp h fun σ H Q ⟨w, ρ, m, Ψ, Φ, a, vl, h⟩ => vl d m w H v (.refl w) a.h (r w) h
theorem je_int {i j pos} : JE X E (.Constant (.int i) j pos) (dC (.int i)) := je_of pe_int fun _ => rfl
theorem je_bl {b j pos} : JE X E (.Constant (.bool b) j pos) (dC (.bl b)) := je_of pe_bl fun _ => rfl
theorem je_str {x j pos} : JE X E (.Constant (.str x) j pos) (dC (.str x)) := je_of pe_str fun _ => rfl
/-- a constant of the module that is an int -/
theorem je_globI {x : Str} {i : Int} {t : Tok} {pos : Pos} (hg : Gl X x) (hm : X.mg x = some (.int i t)) (hd : (x == ("__debug__" : Str)) = false := by decide) : JE X E (.Name x pos) (dC (.int i)) := je_of (v := .int i) (pe_glob hg hm ⟨_, rfl⟩ hd) fun _ => rfl

/-- an operation on values, lifted -/
abbrev DO := D → D → MM → (D → MM → Prop) → Prop
def OpL (K : PySem.W.Frag) (r : R2) (o : DO) : Prop := ∀ w m H x y u v Q Φ, HRep K w m H → Rep K w x u → Rep K w y v → VLift K w Q Φ → o x y m Φ → r u v H Q
def dOp (o : DO) (a b : DE) : DE := fun ρ m Φ Ψ => a ρ m (fun x m1 => b ρ m1 (fun y m2 => o x y m2 Φ) Ψ) Ψ
theorem dOp_ok {r : R2} {o : DO} (hl : OpL X.K r o) {σ : L2.St} {H : Hp} {Q : VK} (h : lift X.K E (dOp o Wa Wb) σ H Q) : tOp r (lift X.K E Wa) (lift X.K E Wb) σ H Q := by
  obtain ⟨w, ρ, m, Ψ, Φ, a, vl, h⟩ := h
  refine ⟨w, ρ, m, Ψ, _, a, fun x m1 w1 H1 u l1 h1 r1 q1 => ?_, h⟩
  refine ⟨w1, ρ, m1, Ψ, _, a.to l1 h1, fun y m2 w2 H2 v l2 h2 r2 q2 => ?_, q1⟩
  exact hl w2 m2 H2 x y u v Q Φ h2 (Rep.mono l2 _ _ r1) r2 (vl.mono (l1.trans l2)) q2
theorem je_op {op : Operator} {r : R2} {o : DO} (ho : OpR X (binaryOp op) r) (hl : OpL X.K r o) (ha : JE X E a Wa) (hb : JE X E b Wb) : JE X E (.BinOp a op b pos) (dOp o Wa Wb) := PE.imp (pe_op ho ha hb) fun _ _ _ h => dOp_ok hl h
theorem je_cmp {op : CmpOp} {r : R2} {o : DO} (ho : OpR X (compareOp op) r) (hl : OpL X.K r o) (ha : JE X E a Wa) (hb : JE X E b Wb) (hm : behindInMarks op b = false) : JE X E (.Compare a [op] [b] pos) (dOp o Wa Wb) := PE.imp (pe_cmpR ho ha hb hm) fun _ _ _ h => dOp_ok hl h
/-- a value that is True or False, as a test -/
def dB (W : DE) : DT := fun ρ m Φ Ψ => W ρ m (fun d m1 => match d with
  | .bl b => Φ b m1
  | _ => False) Ψ
theorem dB_ok {t : TE} {W : DE} (ht : ∀ σ H Q, lift X.K E W σ H Q → t σ H Q) {σ : L2.St} {H : Hp} {Q : Bool → Hp → Prop} (h : liftT X.K E (dB W) σ H Q) : tTest t σ H Q := by
  obtain ⟨w, ρ, m, Ψ, Φ, a, vl, h⟩ := h
  refine ht σ H _ ⟨w, ρ, m, Ψ, _, a, fun d m1 w1 H1 v l1 h1 r1 q1 => ?_, h⟩
  cases d with
  | bl b => exact ⟨b, r1, vl b m1 w1 H1 l1 h1 q1⟩
  | _ => exact False.elim q1
theorem jt_cmp {op : CmpOp} {r : R2} {o : DO} (ho : OpR X (compareOp op) r) (hl : OpL X.K r o) (ha : JE X E a Wa) (hb : JE X E b Wb) (hm : behindInMarks op b = false) : JT X E (.Compare a [op] [b] pos) (dB (dOp o Wa Wb)) :=
  PT.imp (pt_cmpR ho ha hb hm) fun _ _ _ h => dB_ok (fun _ _ _ h => dOp_ok hl h) h
theorem jt_val {e : Expr} {W : DE} (h : JE X E e W) (he : ∀ whole, isTrue e X.env whole = (do let v ← whole; standAt e.pos; holding [v] (truthy v)) := by intro _; rfl) : JT X E e (dB W) :=
  PT.imp (pt_val h he) fun _ _ _ h => dB_ok (t := lift X.K E W) (fun _ _ _ h => h) h
/-- a op1 b op2 c -/
def dChain (o o' : DO) (a b c : DE) : DE := fun ρ m Φ Ψ => a ρ m (fun x m1 => b ρ m1 (fun y m2 => o x y m2 (fun z m3 => match z with
  | .bl k => if k = true then c ρ m3 (fun u m4 => o' y u m4 Φ) Ψ else Φ (.bl false) m3
  | _ => False)) Ψ) Ψ
/-- one-place operations -/
abbrev DO1 := D → MM → (D → MM → Prop) → Prop
def dUn (o : DO1) (a : DE) : DE := fun ρ m Φ Ψ => a ρ m (fun x m1 => o x m1 Φ) Ψ
/-! ### tests -/
variable {tA tB' : DT} {rest : List Expr}
def dAnd (t u : DT) : DT := fun ρ m Φ Ψ => t ρ m (fun c m1 => if c = true then u ρ m1 Φ Ψ else Φ false m1) Ψ
def dOr (t u : DT) : DT := fun ρ m Φ Ψ => t ρ m (fun c m1 => if c = true then Φ true m1 else u ρ m1 Φ Ψ) Ψ
def dNot (t : DT) : DT := fun ρ m Φ Ψ => t ρ m (fun c m1 => Φ (!c) m1) Ψ
theorem jw_and1 (ha : JT X E a tA) : JW X E (.BoolOp .And [a] pos) tA := pw_and1 ha
theorem jw_or1 (ha : JT X E a tA) : JW X E (.BoolOp .Or [a] pos) tA := pw_or1 ha
theorem jw_and (ha : JT X E a tA) (hb : JW X E (.BoolOp .And (b :: rest) pos) tB') : JW X E (.BoolOp .And (a :: b :: rest) pos) (dAnd tA tB') := PW.imp (pw_and ha hb) fun σ H Q ⟨w, ρ, m, Ψ, Φ, a, vl, h⟩ => by
  refine ⟨w, ρ, m, Ψ, _, a, fun c m1 w1 H1 l1 h1 q1 => ?_, h⟩
  cases c with
  | true => exact ⟨w1, ρ, m1, Ψ, Φ, a.to l1 h1, fun b m2 w2 H2 l2 h2 q2 => vl b m2 w2 H2 (l1.trans l2) h2 q2, q1⟩
  | false => exact vl false m1 w1 H1 l1 h1 q1
theorem jw_or (ha : JT X E a tA) (hb : JW X E (.BoolOp .Or (b :: rest) pos) tB') : JW X E (.BoolOp .Or (a :: b :: rest) pos) (dOr tA tB') := PW.imp (pw_or ha hb) fun σ H Q ⟨w, ρ, m, Ψ, Φ, a, vl, h⟩ => by
  refine ⟨w, ρ, m, Ψ, _, a, fun c m1 w1 H1 l1 h1 q1 => ?_, h⟩
  cases c with
  | false => exact ⟨w1, ρ, m1, Ψ, Φ, a.to l1 h1, fun b m2 w2 H2 l2 h2 q2 => vl b m2 w2 H2 (l1.trans l2) h2 q2, q1⟩
  | true => exact vl true m1 w1 H1 l1 h1 q1
theorem jt_not (ha : JT X E a tA) : JT X E (.UnaryOp .Not a pos) (dNot tA) := PT.imp (pt_not ha) fun σ H Q ⟨w, ρ, m, Ψ, Φ, a, vl, h⟩ =>
  ⟨w, ρ, m, Ψ, _, a, fun c m1 w1 H1 l1 h1 q1 => vl (!c) m1 w1 H1 l1 h1 q1, h⟩
/-- and, or, not as values of True and False -/
def dBlV (d : D) (f : Bool → Prop) : Prop := match d with
  | .bl b => f b
  | _ => False
def dAndV (a b : DE) : DE := fun ρ m Φ Ψ => a ρ m (fun x m1 => dBlV x fun c => if c = true then b ρ m1 Φ Ψ else Φ (.bl false) m1) Ψ
def dOrV (a b : DE) : DE := fun ρ m Φ Ψ => a ρ m (fun x m1 => dBlV x fun c => if c = true then Φ (.bl true) m1 else b ρ m1 Φ Ψ) Ψ
def dNotV (a : DE) : DE := fun ρ m Φ Ψ => a ρ m (fun x m1 => dBlV x fun c => Φ (.bl (!c)) m1) Ψ
theorem je_one {op} (h : JE X E a Wa) : JE X E (.BoolOp op [a] pos) Wa := pe_one h
theorem je_or (ha : JE X E a Wa) (hb : JE X E (.BoolOp .Or (b :: rest) pos) Wb) : JE X E (.BoolOp .Or (a :: b :: rest) pos) (dOrV Wa Wb) := PE.imp (pe_or ha hb) fun σ H Q ⟨w, ρ, m, Ψ, Φ, a, vl, h⟩ => by
  refine ⟨w, ρ, m, Ψ, _, a, fun c m1 w1 H1 v l1 h1 r1 q1 => ?_, h⟩
  cases c with
  | bl c =>
    refine ⟨c, r1, ?_⟩
    cases c with
    | false => exact ⟨w1, ρ, m1, Ψ, Φ, a.to l1 h1, vl.mono l1, q1⟩
    | true => exact vl (.bl true) m1 w1 H1 _ l1 h1 rfl q1
  | _ => exact False.elim q1
def dIfE (t : DT) (a b : DE) : DE := fun ρ m Φ Ψ => t ρ m (fun c m1 => if c = true then a ρ m1 Φ Ψ else b ρ m1 Φ Ψ) Ψ
theorem je_ifExp {c : Expr} (hc : JT X E c tA) (ha : JE X E a Wa) (hb : JE X E b Wb) : JE X E (.IfExp c a b pos) (dIfE tA Wa Wb) := PE.imp (pe_ifExp hc ha hb) fun σ H Q ⟨w, ρ, m, Ψ, Φ, a, vl, h⟩ => by
  refine ⟨w, ρ, m, Ψ, _, a, fun c m1 w1 H1 l1 h1 q1 => ?_, h⟩
  cases c with
  | true => exact ⟨w1, ρ, m1, Ψ, Φ, a.to l1 h1, vl.mono l1, q1⟩
  | false => exact ⟨w1, ρ, m1, Ψ, Φ, a.to l1 h1, vl.mono l1, q1⟩

/-! ### argument lists, displays -/
variable {es : List Expr} {Ws : DA}
def dNil : DA := fun _ m Φ _ => Φ [] m
def dCons (a : DE) (r : DA) : DA := fun ρ m Φ Ψ => a ρ m (fun x m1 => r ρ m1 (fun xs m2 => Φ (x :: xs) m2) Ψ) Ψ
theorem ja_nil : JA X E [] dNil := PA.imp pa_nil fun σ H Q ⟨w, ρ, m, Ψ, Φ, a, vl, h⟩ => vl [] m w H [] (.refl w) a.h rfl h
theorem ja_cons (ha : JE X E a Wa) (hr : JA X E es Ws) (hs : starEach (a :: es) X.env = (false, eval a X.env) :: starEach es X.env := by rfl) : JA X E (a :: es) (dCons Wa Ws) := PA.imp (pa_cons ha hr hs) fun σ H Q ⟨w, ρ, m, Ψ, Φ, a, vl, h⟩ => by
  refine ⟨w, ρ, m, Ψ, _, a, fun x m1 w1 H1 v l1 h1 r1 q1 => ?_, h⟩
  exact ⟨w1, ρ, m1, Ψ, _, a.to l1 h1, fun ds m2 w2 H2 vs l2 h2 r2 q2 => vl (x :: ds) m2 w2 H2 _ (l1.trans l2) h2 ⟨v, vs, rfl, Rep.mono l2 _ _ r1, r2⟩ q2, q1⟩
abbrev LIM : Nat := 16777216
theorem lim_sz {n : Nat} (h : n ≤ LIM) : n ≤ sizeLine := by rw [sizeLine_eq]; exact h
theorem lim_lt {n : Nat} (h : n < LIM) : n < sizeLine := by rw [sizeLine_eq]; exact h
def dLst (r : DA) : DE := fun ρ m Φ Ψ => r ρ m (fun ds m1 => ds.length ≤ LIM ∧ Φ (.lst ds) m1) Ψ
def dTup (r : DA) : DE := fun ρ m Φ Ψ => r ρ m (fun ds m1 => ds.length ≤ LIM ∧ Φ (.tup ds) m1) Ψ
def dLstM (r : DA) : DE := fun ρ m Φ Ψ => r ρ m (fun ds m1 => ds.length ≤ LIM ∧ Φ (.hnd m1.M.length) (m1.push (.lst ds))) Ψ
theorem je_lst (h : JA X E es Ws) : JE X E (.List es pos) (dLst Ws) := PE.imp (pe_lst h) fun σ H Q ⟨w, ρ, m, Ψ, Φ, a, vl, h⟩ =>
  ⟨w, ρ, m, Ψ, _, a, fun ds m1 w1 H1 vs l1 h1 r1 ⟨z, q1⟩ => ⟨lim_sz (by rw [r1.length]; exact z), fun p hp => vl _ m1 _ _ _ (l1.trans (Wd.le_put (h1.nof hp))) (h1.put hp) (rep_put_lst h1 hp r1) q1⟩, h⟩
theorem je_tup {x1} (h : JA X E es Ws) : JE X E (.Tuple es x1 pos) (dTup Ws) := PE.imp (pe_tup h) fun σ H Q ⟨w, ρ, m, Ψ, Φ, a, vl, h⟩ =>
  ⟨w, ρ, m, Ψ, _, a, fun ds m1 w1 H1 vs l1 h1 r1 ⟨z, q1⟩ => ⟨lim_sz (by rw [r1.length]; exact z), fun p hp => vl _ m1 _ _ _ (l1.trans (Wd.le_put (h1.nof hp))) (h1.put hp) (rep_put_tup h1 hp r1) q1⟩, h⟩
theorem je_lstM (h : JA X E es Ws) : JE X E (.List es pos) (dLstM Ws) := PE.imp (pe_lst h) fun σ H Q ⟨w, ρ, m, Ψ, Φ, a, vl, h⟩ =>
  ⟨w, ρ, m, Ψ, _, a, fun ds m1 w1 H1 vs l1 h1 r1 ⟨z, q1⟩ => ⟨lim_sz (by rw [r1.length]; exact z), fun p hp => vl _ _ _ _ _ (l1.trans Wd.le_add) (h1.add (o := .lst ds) hp ⟨vs, upd_same, RepAll.mono Wd.le_add _ _ r1⟩) (rep_add h1) q1⟩, h⟩

/-! ### calls -/
/-- what a def is worth: arguments, store, wanted end, wanted exception -/
abbrev DC := List D → MM → (D → MM → Prop) → XP → Prop
def spOf (K : PySem.W.Frag) (n : Nat) (C : DC) : Sp := fun vs H Q E => vs.length = n ∧ ∃ w ds m Φ Ψ, HRep K w m H ∧ RepAll K w ds vs ∧ VLift K w Q Φ ∧ XLift K w (fun cls d _ H => E cls d H) [] Ψ ∧ C ds m Φ Ψ
def dCall (n : Nat) (C : DC) (r : DA) : DE := fun ρ m Φ Ψ => r ρ m (fun ds m1 => ds.length = n ∧ C ds m1 Φ Ψ) Ψ
variable {k n : Nat} {f : Addr} {fd : FuncData} {ps : List Str} {C : DC} {x : Str} {p : Pos}
theorem call_ok {w : Wd} {ρ : Env} {m : MM} {Ψ : XP} {Φ : D → MM → Prop} {σ : L2.St} {H : Hp} {Q : VK} {ds : List D} {vs : List V} (a : At X.K E w σ H ρ m Ψ) (vl : VLift X.K w Q Φ) (r : RepAll X.K w ds vs) (hn : ds.length = n) (c : C ds m Φ Ψ) :
    spOf X.K n C (vs ++ []) H Q (WE E σ) := by
  rw [List.append_nil]
  exact ⟨r.length.trans hn, w, ds, m, Φ, Ψ, a.h, r, vl, fun C fs m' w' H' d xs l h b c q => a.x C fs m' w' H' d xs l h b c q, c⟩
theorem je_call {e : Expr} (tk : Takes X E) (F : FnOk X.prog X.w X.K X.mg X.base (L2.CX X.prog X.w) k f fd ps (spOf X.K n C)) (hr : Room k X.A) (hg : Gl X x) (hm : X.mg x = some (.ref f)) (hk : PySem.W.keepIn X.K (.ref f) = true) (hb : Binds X.K fd ps [])
    (ha : JA X E (e :: es) Ws) (hdb : (x == ("__debug__" : Str)) = false := by decide) (he : starEach (e :: es) X.env = (false, eval e X.env) :: starEach es X.env := by rfl) (hpl : (backTo pos (starEach es X.env)).any (·.1) = false := by rfl) :
    JE X E (.Call (.Name x p) (e :: es) [] pos) (dCall n C Ws) := PE.imp (pe_callS F hr hg hm hk hb (fun σ => passAt tk σ) ha hdb he hpl) fun σ H Q ⟨w, ρ, m, Ψ, Φ, a, vl, h⟩ =>
  ⟨w, ρ, m, Ψ, _, a, fun ds m1 w1 H1 vs l1 h1 r1 ⟨hn, q1⟩ => by
    have z := call_ok (C := C) (a.to l1 h1) (vl.mono l1) r1 hn q1
    rw [List.append_nil] at z
    exact z, h⟩
end
end Dl

namespace Dl
open PySem L2 PyProof.Rows

/-! ### statements -/
def dNext : DS := fun N _ ρ m => N.nx ρ m
def dSeq (t u : DS) : DS := fun N Ψ ρ m => t { N with nx := u N Ψ } Ψ ρ m
def dDrop (e : DE) : DS := fun N Ψ ρ m => e ρ m (fun _ m1 => N.nx ρ m1) (Ψ ρ)
def dRet (e : DE) : DS := fun N Ψ ρ m => e ρ m N.rt (Ψ ρ)
def dRetN : DS := fun N _ _ m => N.rt .non m
def dIf (c : DT) (t u : DS) : DS := fun N Ψ ρ m => c ρ m (fun b m1 => if b = true then t N Ψ ρ m1 else u N Ψ ρ m1) (Ψ ρ)
def dSet (i : Nat) (e : DE) : DS := fun N Ψ ρ m => e ρ m (fun d m1 => N.nx (ρ.set i (some d)) m1) (Ψ ρ)
/-- targets -/
abbrev DG := D → Env → MM → (Env → MM → Prop) → Prop
def dgName (i : Nat) : DG := fun d ρ m k => k (ρ.set i (some d)) m
def bindD : List Nat → List D → Env → Env
  | i :: is, d :: ds, ρ => bindD is ds (ρ.set i (some d))
  | _, _, ρ => ρ
def asT : D → Option (List D)
  | .tup ds => some ds
  | .rot ds => some ds
  | _ => none
def dgTup (is : List Nat) : DG := fun d ρ m k => match asT d with
  | some ds => ds.length = is.length ∧ k (bindD is ds ρ) m
  | none => False
def dAsg (e : DE) (g : DG) : DS := fun N Ψ ρ m => e ρ m (fun d m1 => g d ρ m1 N.nx) (Ψ ρ)
def dAug (i : Nat) (o : DO) (e : DE) : DS := fun N Ψ ρ m => match ρ[i]? with
  | some (some x) => e ρ m (fun y m1 => o x y m1 (fun z m2 => N.nx (ρ.set i (some z)) m2)) (Ψ ρ)
  | _ => False
/-- iteration -/
abbrev DI := Env → MM → (List D → MM → Prop) → XP → Prop
def forW (g : DG) (body : DS) (N : DN) (Ψ : XS) : List D → Env → MM → Prop
  | [], ρ, m => N.nx ρ m
  | d :: ds, ρ, m => g d ρ m fun ρ1 m1 => body { N with nx := forW g body N Ψ ds, ct := forW g body N Ψ ds, bk := N.nx } Ψ ρ1 m1
def dFor (it : DI) (g : DG) (body : DS) : DS := fun N Ψ ρ m => it ρ m (fun ds m1 => forW g body N Ψ ds ρ m1) (Ψ ρ)
def dWhile (c : DT) (body : DS) : DS := fun N Ψ ρ m => ∃ W : Nat → Env → MM → Prop, (∃ n, W n ρ m) ∧ ∀ n ρ m, W n ρ m →
  c ρ m (fun b m1 => if b = true then body { N with nx := fun ρ' m' => ∃ n', n' < n ∧ W n' ρ' m', ct := fun ρ' m' => ∃ n', n' < n ∧ W n' ρ' m', bk := N.nx } Ψ ρ m1 else N.nx ρ m1) (Ψ ρ)

section
variable {X : Cx} {E : WX} {a b c : Expr} {Wa Wb Wc : DE} {pos : Pos} {st : Stmt} {rest body : List Stmt} {t u : DS} {tc : DT}
theorem NLift.with {K : PySem.W.Frag} {w : Wd} {D : Ends} {N : DN} (h : NLift K w D N) {q : L2.St → Hp → Prop} {f : Env → MM → Prop} (s : SLift K w q f) : NLift K w { D with nx := q } { N with nx := f } := ⟨s, h.rt, h.bk, h.ct⟩
theorem jss_nil : JSs X E [] dNext := PSs.imp pss_nil fun D σ H ⟨w, ρ, m, Ψ, N, a, n, h⟩ => n.nx ρ m w H σ (.refl w) a.h a.s h
theorem jss_cons (h1 : JS X E st t) (h2 : JSs X E rest u) : JSs X E (st :: rest) (dSeq t u) := PSs.imp (pss_cons h1 h2) fun D σ H ⟨w, ρ, m, Ψ, N, a, n, h⟩ =>
  ⟨w, ρ, m, Ψ, { N with nx := u N Ψ }, a, n.with fun ρ' m' w' H' σ' l h' s' q => ⟨w', ρ', m', Ψ, N, ⟨h', s', a.x.mono l⟩, n.mono l, q⟩, h⟩
theorem jss_one (h1 : JS X E st t) : JSs X E [st] t := pss_one h1
theorem js_expr (he : JE X E a Wa) (hs : swapsWith a none pos.line X.env = pure false := by rfl) : JS X E (.Expr a pos) (dDrop Wa) := PS.imp (ps_expr he hs) fun D σ H ⟨w, ρ, m, Ψ, N, a, n, h⟩ =>
  ⟨w, ρ, m, Ψ ρ, _, a.at, fun d m1 w1 H1 v l1 h1 r1 q1 => n.nx ρ m1 w1 H1 σ l1 h1 (a.s.mono l1) q1, h⟩
theorem js_ret (he : JE X E a Wa) : JS X E (.Return (some a) pos) (dRet Wa) := PS.imp (ps_ret he) fun D σ H ⟨w, ρ, m, Ψ, N, a, n, h⟩ => ⟨w, ρ, m, Ψ ρ, _, a.at, n.rt, h⟩
theorem js_if {A B : List Stmt} (hc : JT X E c tc) (ha : JSs X E A t) (hb : JSs X E B u) : JS X E (.If c A B pos) (dIf tc t u) := PS.imp (ps_if hc ha hb) fun D σ H ⟨w, ρ, m, Ψ, N, a, n, h⟩ => by
  refine ⟨w, ρ, m, Ψ ρ, _, a.at, fun b m1 w1 H1 l1 h1 q1 => ?_, h⟩
  cases b with
  | true => exact ⟨w1, ρ, m1, Ψ, N, a.to l1 h1, n.mono l1, q1⟩
  | false => exact ⟨w1, ρ, m1, Ψ, N, a.to l1 h1, n.mono l1, q1⟩
theorem js_set (i : Nat) {x : Str} {pos' : Pos} (hN : X.N.Nodup) (hi : X.N[i]? = some x) (hx : Loc X.env.scope x) (he : JE X E a Wa) (hs : swapsWith a (some (.Name x pos')) pos.line X.env = pure false := by rfl)
    (hf : X.fn x = true ∨ X.env.scope.names.lookup x = some .local := by first | exact .inl rfl | exact .inr rfl | assumption) : JS X E (.Assign [.Name x pos'] a pos) (dSet i Wa) := PS.imp (ps_set hN hi hx he hs hf) fun D σ H ⟨w, ρ, m, Ψ, N, a, n, h⟩ =>
  ⟨w, ρ, m, Ψ ρ, _, a.at, fun d m1 w1 H1 v l1 h1 r1 q1 => n.nx _ m1 w1 H1 _ l1 h1 ((a.s.mono l1).set i r1) q1, h⟩

/-! targets -/
def liftG (K : PySem.W.Frag) (js : List Nat) (G : DG) : TG := fun v σ H Q => ∃ w ρ m d k, HRep K w m H ∧ Slots K w σ ρ ∧ Rep K w d v ∧ (∀ ρ' m' w' H' σ', w.le w' → HRep K w' m' H' → Slots K w' σ' ρ' → wipe σ' js = wipe σ js → k ρ' m' → Q σ' H') ∧ G d ρ m k
theorem PG.imp {e : Expr} {t t' : TG} (h : PG X e t) (i : ∀ v σ H Q, t' v σ H Q → t v σ H Q) : PG X e t' := ⟨fun pins s σ H x v Q I r q => h.run pins s σ H x v Q I r (i x σ H Q q)⟩
theorem wipe_get {σ : L2.St} {js : List Nat} {i : Nat} : (wipe σ js)[i]? = if i ∈ js ∧ i < σ.length then some none else σ[i]? := by
  induction js with
  | nil => simp [wipe]
  | cons j js ih =>
    show ((wipe σ js).set j none)[i]? = _
    by_cases h : j = i
    · subst h
      by_cases hl : j < σ.length
      · rw [List.getElem?_set_self (by rw [wipe_length]; exact hl), if_pos ⟨List.mem_cons_self, hl⟩]
      · rw [List.getElem?_eq_none (by rw [List.length_set, wipe_length]; omega), if_neg (fun z => hl z.2), List.getElem?_eq_none (by omega)]
    · rw [List.getElem?_set_ne h, ih]
      have e : (i ∈ j :: js ∧ i < σ.length) ↔ (i ∈ js ∧ i < σ.length) := by
        constructor
        · rintro ⟨z, q⟩
          rcases List.mem_cons.mp z with z | z
          · exact absurd z.symm h
          · exact ⟨z, q⟩
        · rintro ⟨z, q⟩; exact ⟨List.mem_cons_of_mem _ z, q⟩
      by_cases q : i ∈ js ∧ i < σ.length
      · rw [if_pos q, if_pos (e.mpr q)]
      · rw [if_neg q, if_neg (fun z => q (e.mp z))]
theorem wipe_set {σ : L2.St} {js : List Nat} {i : Nat} {v : Option V} (h : i ∈ js) : wipe (σ.set i v) js = wipe σ js := by
  apply List.ext_getElem?
  intro j
  rw [wipe_get, wipe_get, List.length_set]
  by_cases q : j ∈ js ∧ j < σ.length
  · rw [if_pos q, if_pos q]
  · rw [if_neg q, if_neg q]
    by_cases e : i = j
    · subst e
      have hl : ¬ i < σ.length := fun z => q ⟨h, z⟩
      rw [List.getElem?_eq_none (by rw [List.length_set]; omega), List.getElem?_eq_none (by omega)]
    · rw [List.getElem?_set_ne e]
theorem wipe_wipe {σ : L2.St} {js : List Nat} : wipe (wipe σ js) js = wipe σ js := by
  apply List.ext_getElem?
  intro j
  rw [wipe_get, wipe_get, wipe_length]
  by_cases q : j ∈ js ∧ j < σ.length
  · simp [q]
  · simp [q]
theorem jg_name (i : Nat) {x : Str} {pos : Pos} {js : List Nat} (hj : i ∈ js) (hN : X.N.Nodup) (hi : X.N[i]? = some x) (hx : Loc X.env.scope x) (hf : X.fn x = true ∨ X.env.scope.names.lookup x = some .local := by first | exact .inl rfl | exact .inr rfl | assumption) :
    PG X (.Name x pos) (liftG X.K js (dgName i)) := PG.imp (pg_name hN hi hx hf) fun v σ H Q ⟨w, ρ, m, d, k, h, s, r, n, q⟩ => n _ m w H _ (.refl w) h (s.set i r) (wipe_set hj) q
theorem asT_ok {K : PySem.W.Frag} {w : Wd} {m : MM} {H : Hp} {d : D} {ds : List D} {v : V} (h : HRep K w m H) (e : asT d = some ds) (r : Rep K w d v) : ∃ a xs, v = .ref a ∧ SqT K H a xs ∧ RepAll K w ds xs := by
  cases d with
  | tup es => cases e; obtain ⟨a, xs, e, q, r⟩ := r; exact ⟨a, xs, e, .inl (.inl (h.ext _ _ q)), r⟩
  | rot es => cases e; obtain ⟨a, xs, e, q, r⟩ := r; exact ⟨a, xs, e, sqt_mono h.ext q, r⟩
  | _ => cases e
/-! ### loops -/
theorem js_while {c : Expr} (hp : PassesOwn (model X.prog X.w) X.A X.env X.xe) (hc : JT X E c tc) (hb : JSs X E body t) : JS X E (.While c body [] pos) (dWhile tc t) := PS.imp (ps_while hp hc hb) fun D σ H ⟨w, ρ, m, Ψ, N, a, n, h⟩ => by
  obtain ⟨W, ⟨n0, w0⟩, hw⟩ := h
  refine ⟨fun k σ H => ∃ w' ρ m, w.le w' ∧ AtS X.K E w' σ H ρ m Ψ ∧ W k ρ m, ⟨n0, w, ρ, m, .refl w, a, w0⟩, ?_⟩
  rintro k σ1 H1 ⟨w1, ρ1, m1, l1, a1, q1⟩
  refine ⟨w1, ρ1, m1, Ψ ρ1, _, a1.at, fun b m2 w2 H2 l2 h2 q2 => ?_, hw k ρ1 m1 q1⟩
  have a2 := a1.to l2 h2
  cases b with
  | true =>
    show (if true = true then _ else _)
    rw [if_pos rfl]
    refine ⟨fun σ' H' => ∃ k', k' < k ∧ ∃ w' ρ m, w.le w' ∧ AtS X.K E w' σ' H' ρ m Ψ ∧ W k' ρ m, fun σ' H' z => z, w2, ρ1, m2, Ψ, _, a2, ?_, q2⟩
    have n2 := n.mono (l1.trans l2)
    have go : SLift X.K w2 (fun σ' H' => ∃ k', k' < k ∧ ∃ w' ρ m, w.le w' ∧ AtS X.K E w' σ' H' ρ m Ψ ∧ W k' ρ m) (fun ρ' m' => ∃ n', n' < k ∧ W n' ρ' m') := fun ρ' m' w' H' σ' l h' s' ⟨k', lt, q⟩ =>
      ⟨k', lt, w', ρ', m', (l1.trans l2).trans l, ⟨h', s', a2.x.mono l⟩, q⟩
    exact ⟨go, n2.rt, n2.nx, go⟩
  | false =>
    show (if false = true then _ else _)
    rw [if_neg Bool.false_ne_true]
    exact n.nx ρ1 m2 w2 H2 σ1 (l1.trans l2) h2 a2.s q2

/-- an iterator gives just these -/
structure Wlk (K : PySem.W.Frag) (w0 : Wd) (J : It) (ds : List D) : Prop where
  go : ∀ w m H (i : Nat) d, w0.le w → HRep K w m H → ds[i]? = some d → J.go i H
  stop : ∀ w m H, w0.le w → HRep K w m H → J.stop ds.length H
  yld : ∀ w m H (i : Nat) d x H', w0.le w → HRep K w m H → ds[i]? = some d → J.yld i H x H' → ∃ w', w.le w' ∧ HRep K w' m H' ∧ Rep K w' d x
def liftI (K : PySem.W.Frag) (E : WX) (W : DI) : TI := fun σ H R => ∃ w ρ m Ψ Φ, At K E w σ H ρ m Ψ ∧ (∀ ds m' w' H' J, w.le w' → HRep K w' m' H' → Wlk K w' J ds → Φ ds m' → R J H') ∧ W ρ m Φ Ψ
abbrev JI (X : Cx) (E : WX) (tg it : Expr) (W : DI) : Prop := PI X tg it (liftI X.K E W)
theorem PI.imp {tg e : Expr} {t t' : TI} (h : PI X tg e t) (i : ∀ σ H R, t' σ H R → t σ H R) : PI X tg e t' := ⟨fun pins s σ H R I q => h.run pins s σ H R I (i σ H R q)⟩
theorem js_for {tg iter : Expr} {wi : DI} {g : DG} {js : List Nat} (hp : PassesOwn (model X.prog X.w) X.A X.env X.xe) (hc : X.calm = true) (hi : JI X E tg iter wi) (hg : PG X tg (liftG X.K js g)) (hb : JSs X E body t)
    (hs : ∀ x, foldedSetIterable iter X.env x = pure x := by intro _; rfl) : JS X E (.For tg iter body [] pos) (dFor wi g t) := PS.imp (ps_for hp hc hi hg hb hs) fun D σ H ⟨w, ρ, m, Ψ, N, a, n, h⟩ => by
  refine ⟨w, ρ, m, Ψ ρ, _, a.at, fun ds m1 w1 H1 J l1 h1 wk q1 => ?_, h⟩
  refine ⟨fun i k σ H => k = ds.length - i ∧ i ≤ ds.length ∧ ∃ w' ρ m, w1.le w' ∧ AtS X.K E w' σ H ρ m Ψ ∧ forW g t N Ψ (ds.drop i) ρ m, ⟨ds.length, by omega, Nat.zero_le _, w1, ρ, m1, .refl w1, a.to l1 h1, q1⟩, ?_⟩
  rintro i k σ2 H2 ⟨rfl, hi, w2, ρ2, m2, l2, a2, q2⟩
  by_cases hlt : i < ds.length
  · have ed : ds[i]? = some ds[i] := List.getElem?_eq_getElem hlt
    have dr : ds.drop i = ds[i] :: ds.drop (i + 1) := List.drop_eq_getElem_cons hlt
    rw [dr] at q2
    refine .inr ⟨wk.go w2 m2 H2 i _ l2 a2.h ed, fun σ' H' => ∃ w' ρ m, w1.le w' ∧ AtS X.K E w' σ' H' ρ m Ψ ∧ forW g t N Ψ (ds.drop (i + 1)) ρ m, fun σ' H' z => ⟨ds.length - (i + 1), by omega, rfl, hlt, z⟩, fun x H3 y => ?_⟩
    obtain ⟨w3, l3, h3, r3⟩ := wk.yld w2 m2 H2 i _ x H3 l2 a2.h ed y
    refine ⟨w3, ρ2, m2, ds[i], _, h3, a2.s.mono l3, r3, fun ρ' m' w' H' σ' l h' s' _ q => ?_, q2⟩
    have l4 := l2.trans (l3.trans l)
    refine ⟨w', ρ', m', Ψ, _, ⟨h', s', a2.x.mono (l3.trans l)⟩, ?_, q⟩
    have n2 := n.mono (l1.trans l4)
    have go : SLift X.K w' (fun σ' H' => ∃ w' ρ m, w1.le w' ∧ AtS X.K E w' σ' H' ρ m Ψ ∧ forW g t N Ψ (ds.drop (i + 1)) ρ m) (forW g t N Ψ (ds.drop (i + 1))) := fun ρ5 m5 w5 H5 σ5 l5 h5 s5 q5 =>
      ⟨w5, ρ5, m5, l4.trans l5, ⟨h5, s5, a2.x.mono ((l3.trans l).trans l5)⟩, q5⟩
    exact ⟨go, n2.rt, n2.nx, go⟩
  · have e : i = ds.length := by omega
    subst e
    rw [List.drop_length] at q2
    exact .inl ⟨wk.stop w2 m2 H2 l2 a2.h, n.nx ρ2 m2 w2 H2 σ2 (l1.trans l2) a2.h a2.s q2⟩

/-! iterators -/
def moL : Option MO → Option (List D)
  | some (.lst ds) => some ds
  | _ => none
theorem moL_eq {o : Option MO} {ds : List D} (h : moL o = some ds) : o = some (.lst ds) := by
  cases o with
  | none => cases h
  | some o =>
    cases o with
    | lst es => cases h; rfl
    | _ => cases h
def asL (m : MM) : D → Option (List D)
  | .lst ds => some ds
  | .rol ds => some ds
  | .hnd k => moL m.M[k]?
  | _ => none
def asF : D → Option (List D)
  | .lst ds => some ds
  | .rol ds => some ds
  | _ => none
theorem asL_ok {K : PySem.W.Frag} {w : Wd} {m : MM} {H : Hp} {d : D} {ds : List D} {v : V} (h : HRep K w m H) (e : asL m d = some ds) (r : Rep K w d v) : ∃ a xs, v = .ref a ∧ SqL K H a xs ∧ RepAll K w ds xs := by
  cases d with
  | lst es => cases e; obtain ⟨a, xs, e, q, r⟩ := r; exact ⟨a, xs, e, .inl (.inl (h.ext _ _ q)), r⟩
  | rol es => cases e; obtain ⟨a, xs, e, q, r⟩ := r; exact ⟨a, xs, e, sql_mono h.ext q, r⟩
  | hnd k =>
    have q := moL_eq e
    obtain ⟨a, e, q2⟩ := r
    obtain ⟨xs, hx, rr⟩ := h.obj k a _ q2 q
    exact ⟨a, xs, e, .inl (.inl hx), rr⟩
  | _ => cases e
theorem asF_ok {K : PySem.W.Frag} {w : Wd} {d : D} {ds : List D} {v : V} (e : asF d = some ds) (r : Rep K w d v) : ∃ a xs, v = .ref a ∧ SqL K w.F a xs ∧ RepAll K w ds xs := by
  cases d with
  | lst es => cases e; obtain ⟨a, xs, e, q, r⟩ := r; exact ⟨a, xs, e, .inl (.inl q), r⟩
  | rol es => cases e; obtain ⟨a, xs, e, q, r⟩ := r; exact ⟨a, xs, e, q, r⟩
  | _ => cases e
def diList (e : DE) : DI := fun ρ m Φ Ψ => e ρ m (fun d m1 => match asF d with
  | some ds => Φ ds m1
  | none => False) Ψ
theorem wlk_list {K : PySem.W.Frag} {w : Wd} {a : Addr} {xs : List V} {ds : List D} (q : SqL K w.F a xs) (r : RepAll K w ds xs) : Wlk K w (Itl K a) ds where
  go := fun w1 m H i d l h e => by
    obtain ⟨v, e1, _⟩ := r.get e
    exact ⟨xs, v, sql_mono (fun a o z => h.ext a o (l.F a o z)) q, e1⟩
  stop := fun w1 m H l h => ⟨xs, sql_mono (fun a o z => h.ext a o (l.F a o z)) q, Nat.le_of_eq r.length⟩
  yld := fun w1 m H i d x H' l h e y => by
    obtain ⟨rfl, y⟩ := y
    obtain ⟨v, e1, rv⟩ := r.get e
    have z := y xs (sql_mono (fun a o z => h.ext a o (l.F a o z)) q)
    rw [e1] at z; cases z
    exact ⟨w1, .refl w1, h, Rep.mono l _ _ rv⟩
theorem ji_list {tg : Expr} (h : JE X E a Wa) : JI X E tg a (diList Wa) := PI.imp (pi_list h) fun σ H R ⟨w, ρ, m, Ψ, Φ, a, n, h⟩ => by
  refine ⟨w, ρ, m, Ψ, _, a, fun d m1 w1 H1 v l1 h1 r1 q1 => ?_, h⟩
  split at q1
  · rename_i ds e
    obtain ⟨a, xs, rfl, q, r⟩ := asF_ok e r1
    exact ⟨a, rfl, ⟨xs, sql_mono h1.ext q⟩, n ds m1 w1 H1 _ l1 h1 (wlk_list q r) q1⟩
  · exact q1.elim
def rngD (lo : Int) (n : Nat) : List D := (List.range n).map fun i => D.int (lo + (i : Nat))
theorem wlk_range {K : PySem.W.Frag} {w : Wd} {lo : Int} {n : Nat} : Wlk K w (Itr lo n) (rngD lo n) where
  go := fun w1 m H i d l h e => by
    have z := (List.getElem?_eq_some_iff.mp e).1
    show i < n
    simpa [rngD] using z
  stop := fun w1 m H l h => by show n ≤ (rngD lo n).length; simp [rngD]
  yld := fun w1 m H i d x H' l h e y => by
    obtain ⟨rfl, rfl⟩ := y
    have e' : d = D.int (lo + (i : Nat)) := by
      unfold rngD at e
      rw [List.getElem?_map] at e
      cases q : (List.range n)[i]? with
      | none => rw [q] at e; cases e
      | some j =>
        rw [q] at e
        have hj : j = i := by
          have := (List.getElem?_eq_some_iff.mp q).2
          simpa using this.symm
        subst hj
        exact (Option.some.inj e).symm
    subst e'
    exact ⟨w1, .refl w1, h, rfl⟩
def diRng1 (r : DA) : DI := fun ρ m Φ Ψ => r ρ m (fun ds m1 => match ds with
  | [.int j] => (-(2 ^ 62) ≤ j ∧ j < 2 ^ 62) ∧ Φ (rngD 0 j.toNat) m1
  | _ => False) Ψ
def diRng2 (r : DA) : DI := fun ρ m Φ Ψ => r ρ m (fun ds m1 => match ds with
  | [.int i, .int j] => (-(2 ^ 62) ≤ i ∧ i < 2 ^ 62 ∧ -(2 ^ 62) ≤ j ∧ j < 2 ^ 62) ∧ Φ (rngD i (j - i).toNat) m1
  | _ => False) Ψ
theorem rep1 {K : PySem.W.Frag} {w : Wd} {d : D} {vs : List V} (r : RepAll K w [d] vs) : ∃ v, vs = [v] ∧ Rep K w d v := by
  obtain ⟨v, r', rfl, a, b⟩ := r
  have e : r' = [] := b
  subst e; exact ⟨v, rfl, a⟩
theorem rep2 {K : PySem.W.Frag} {w : Wd} {d e : D} {vs : List V} (r : RepAll K w [d, e] vs) : ∃ v u, vs = [v, u] ∧ Rep K w d v ∧ Rep K w e u := by
  obtain ⟨v, r', rfl, a, b⟩ := r
  obtain ⟨u, rfl, c⟩ := rep1 b
  exact ⟨v, u, rfl, a, c⟩
theorem ji_range1 {tg : Expr} {Ws : DA} {p : Pos} (hg : Gl X "range") (hm : X.mg "range" = none) (ha : JA X E [a] Ws) (hs : starEach [a] X.env = [(false, eval a X.env)] := by rfl) : JI X E tg (.Call (.Name "range" p) [a] [] pos) (diRng1 Ws) :=
  PI.imp (pi_range1 hg hm ha hs) fun σ H R ⟨w, ρ, m, Ψ, Φ, a, n, h⟩ => by
  refine ⟨w, ρ, m, Ψ, _, a, fun ds m1 w1 H1 vs l1 h1 r1 q1 => ?_, h⟩
  split at q1
  · obtain ⟨v, rfl, rv⟩ := rep1 r1
    have e : v = .int _ := rv
    subst e
    exact ⟨_, rfl, q1.1.1, q1.1.2, n _ m1 w1 H1 _ l1 h1 wlk_range q1.2⟩
  · exact q1.elim
end
end Dl

namespace Dl
open PySem L2 PyProof.Rows

theorem VLift.int {K : PySem.W.Frag} {w : Wd} {m : MM} {H : Hp} {Q : VK} {Φ : D → MM → Prop} {i : Int} (vl : VLift K w Q Φ) (h : HRep K w m H) (q : Φ (.int i) m) : Q (.int i) H := vl (.int i) m w H _ (.refl w) h rfl q
theorem VLift.bl {K : PySem.W.Frag} {w : Wd} {m : MM} {H : Hp} {Q : VK} {Φ : D → MM → Prop} {i : Bool} (vl : VLift K w Q Φ) (h : HRep K w m H) (q : Φ (.bl i) m) : Q (.bl i) H := vl (.bl i) m w H _ (.refl w) h rfl q
theorem VLift.str {K : PySem.W.Frag} {w : Wd} {m : MM} {H : Hp} {Q : VK} {Φ : D → MM → Prop} {i : Str} (vl : VLift K w Q Φ) (h : HRep K w m H) (q : Φ (.str i) m) : Q (.str i) H := vl (.str i) m w H _ (.refl w) h rfl q
theorem VLift.non {K : PySem.W.Frag} {w : Wd} {m : MM} {H : Hp} {Q : VK} {Φ : D → MM → Prop} (vl : VLift K w Q Φ) (h : HRep K w m H) (q : Φ .non m) : Q .non H := vl .non m w H _ (.refl w) h rfl q
/-! ### operations -/
def oI (C : Int → Int → Prop) (g : Int → Int → Int) : DO := fun x y m Φ => match x, y with
  | .int i, .int j => C i j ∧ Φ (.int (g i j)) m
  | _, _ => False
def oI0 (g : Int → Int → Int) : DO := fun x y m Φ => match x, y with
  | .int i, .int j => Φ (.int (g i j)) m
  | _, _ => False
def oB0 (g : Int → Int → Bool) : DO := fun x y m Φ => match x, y with
  | .int i, .int j => Φ (.bl (g i j)) m
  | _, _ => False
theorem opl_I {K : PySem.W.Frag} {C C' : Int → Int → Prop} {g : Int → Int → Int} (hC : ∀ i j, C i j → C' i j) : OpL K (rI C' fun i j => .int (g i j)) (oI C g) := fun w m H x y u v Q Φ h r1 r2 vl q => by
  cases x with
  | int i =>
    cases y with
    | int j => exact ⟨i, j, r1, r2, hC _ _ q.1, vl.int h q.2⟩
    | _ => exact False.elim q
  | _ => exact False.elim q
theorem opl_B0 {K : PySem.W.Frag} {g : Int → Int → Bool} : OpL K (rI0 fun i j => .bl (g i j)) (oB0 g) := fun w m H x y u v Q Φ h r1 r2 vl q => by
  cases x with
  | int i =>
    cases y with
    | int j => exact ⟨i, j, r1, r2, vl.bl h q⟩
    | _ => exact False.elim q
  | _ => exact False.elim q
/-- a product: one factor below 2 ^ 64, or both below 2 ^ 400000 -/
def MulC (i j : Int) : Prop := (-(2 ^ 64) < i ∧ i < 2 ^ 64) ∨ (-(2 ^ 64) < j ∧ j < 2 ^ 64) ∨ CMulW i j
theorem op_mulC {X : Cx} : OpR X (binaryOp .Mult) (rI MulC fun i j => .int (i * j)) := fun pins s σ H x y v u Q I rx ry h => by
  obtain ⟨i, j, e1, e2, hc, q⟩ := h
  rcases hc with hc | hc | hc
  · exact op_mul pins s σ H x y v u Q I rx ry ⟨i, j, e1, e2, .inl hc, q⟩
  · exact op_mul pins s σ H x y v u Q I rx ry ⟨i, j, e1, e2, .inr hc, q⟩
  · exact op_mulW pins s σ H x y v u Q I rx ry ⟨i, j, e1, e2, hc, q⟩
def DivC (_ j : Int) : Prop := 0 < j ∧ j < 2 ^ 64
theorem divC_ok {i j : Int} (h : DivC i j) : CDivW i j := wide_div h.1 (b := 64) (by have := h.1; have := h.2; omega) (by decide) (by decide)
def ModC (_ j : Int) : Prop := 0 < j
/-- tracked lists -/
def asK (m : MM) : D → Option (List D)
  | .lst ds => some ds
  | .hnd k => moL m.M[k]?
  | _ => none
theorem asK_ok {K : PySem.W.Frag} {w : Wd} {m : MM} {H : Hp} {d : D} {ds : List D} {v : V} (h : HRep K w m H) (e : asK m d = some ds) (r : Rep K w d v) : ∃ a xs, v = .ref a ∧ H a = some (.lst xs) ∧ RepAll K w ds xs := by
  cases d with
  | lst es => cases e; obtain ⟨a, xs, e, q, r⟩ := r; exact ⟨a, xs, e, h.ext _ _ q, r⟩
  | hnd k =>
    have q := moL_eq e
    obtain ⟨a, e, q2⟩ := r
    obtain ⟨xs, hx, rr⟩ := h.obj k a _ q2 q
    exact ⟨a, xs, e, hx, rr⟩
  | _ => cases e
def rStrA : R2 := fun x y H Q => ∃ i j, x = .str i ∧ y = .str j ∧ i.length + j.length ≤ sizeLine ∧ Q (.str (i ++ j)) H
def rAddAll (K : PySem.W.Frag) : R2 := fun x y H Q => (rI0 fun i j => .int (i + j)) x y H Q ∨ rStrA x y H Q ∨ rCat x y H Q ∨ rCatT K x y H Q
theorem op_addAll {X : Cx} : OpR X (binaryOp .Add) (rAddAll X.K) := op_add.or (op_add_str.or (op_cat.or op_catT))
def oAdd : DO := fun x y m Φ => match x, y with
  | .int i, .int j => Φ (.int (i + j)) m
  | .str i, .str j => i.length + j.length ≤ LIM ∧ Φ (.str (i ++ j)) m
  | .tup xs, .tup ys => xs ≠ [] ∧ ys ≠ [] ∧ xs.length + ys.length ≤ LIM ∧ Φ (.tup (xs ++ ys)) m
  | .lst xs, .lst ys => xs.length + ys.length ≤ LIM ∧ Φ (.lst (xs ++ ys)) m
  | x, y => match asK m x, asK m y with
    | some xs, some ys => xs.length + ys.length ≤ LIM ∧ Φ (.lst (xs ++ ys)) m
    | _, _ => False
theorem cat_ok {K : PySem.W.Frag} {w : Wd} {m : MM} {H : Hp} {x y : D} {xs ys : List D} {u v : V} {Q : VK} {Φ : D → MM → Prop} (h : HRep K w m H) (e1 : asK m x = some xs) (e2 : asK m y = some ys) (r1 : Rep K w x u) (r2 : Rep K w y v) (vl : VLift K w Q Φ)
    (z : xs.length + ys.length ≤ LIM) (q : Φ (.lst (xs ++ ys)) m) : rCat u v H Q := by
  obtain ⟨a, us, rfl, ha, ra⟩ := asK_ok h e1 r1
  obtain ⟨b, vs, rfl, hb, rb⟩ := asK_ok h e2 r2
  refine ⟨a, b, us, vs, rfl, rfl, ha, hb, lim_sz (by rw [ra.length, rb.length]; exact z), fun p hp => ?_⟩
  exact vl _ m _ _ _ (Wd.le_put (h.nof hp)) (h.put hp) (rep_put_lst h hp (ra.append rb)) q
theorem opl_add {K : PySem.W.Frag} : OpL K (rAddAll K) oAdd := fun w m H x y u v Q Φ h r1 r2 vl q => by
  unfold oAdd at q
  split at q
  · exact .inl ⟨_, _, r1, r2, vl.int h q⟩
  · exact .inr (.inl ⟨_, _, r1, r2, lim_sz q.1, vl.str h q.2⟩)
  · obtain ⟨a, us, rfl, ha, ra⟩ := r1
    obtain ⟨b, vs, rfl, hb, rb⟩ := r2
    obtain ⟨q1, q2, q3, q4⟩ := q
    have n1 : us ≠ [] := fun z => by subst z; have := ra.length; exact q1 (List.length_eq_zero_iff.mp this.symm)
    have n2 : vs ≠ [] := fun z => by subst z; have := rb.length; exact q2 (List.length_eq_zero_iff.mp this.symm)
    refine .inr (.inr (.inr ⟨a, b, us, vs, rfl, rfl, .inl (.inl (h.ext _ _ ha)), .inl (.inl (h.ext _ _ hb)), n1, lim_sz (by rw [ra.length, rb.length]; exact q3), fun z => absurd z n2, fun _ p hp => ?_⟩))
    exact vl _ m _ _ _ (Wd.le_put (h.nof hp)) (h.put hp) (rep_put_tup h hp (ra.append rb)) q4
  · exact .inr (.inr (.inl (cat_ok h (x := .lst _) (y := .lst _) rfl rfl r1 r2 vl q.1 q.2)))
  · split at q
    · rename_i e1 e2
      exact .inr (.inr (.inl (cat_ok h e1 e2 r1 r2 vl q.1 q.2)))
    · exact q.elim

/-! equality -/
mutual
def toPy : D → PyData
  | .bl b => .bool b
  | .int i => .int i
  | .str x => .str x
  | .lst ds => .list (toPys ds)
  | .rol ds => .list (toPys ds)
  | .tup ds => .tuple (toPys ds)
  | .rot ds => .tuple (toPys ds)
  | _ => .none
def toPys : List D → List PyData
  | [] => []
  | d :: ds => toPy d :: toPys ds
end
mutual
def okE (n : Nat) : D → Bool
  | .non => true
  | .bl _ => true
  | .int _ => true
  | .str x => PyData.strOk x
  | .lst ds => decide (0 < n) && okEs (n - 1) ds
  | .rol ds => decide (0 < n) && okEs (n - 1) ds
  | .tup ds => decide (0 < n) && okEs (n - 1) ds
  | .rot ds => decide (0 < n) && okEs (n - 1) ds
  | _ => false
def okEs (n : Nat) : List D → Bool
  | [] => true
  | d :: ds => okE n d && okEs n ds
end

section
variable {K : PySem.W.Frag} {w : Wd} {m : MM} {H : Hp}
mutual
theorem dp_of (h : HRep K w m H) : ∀ (d : D) (v : V) (n : Nat), Rep K w d v → okE n d = true → Dp K H v (toPy d)
  | .non, _, _, r, _ => by cases (show _ = V.non from r); exact .non
  | .bl b, _, _, r, _ => by cases (show _ = V.bl b from r); exact .bl b
  | .int i, _, _, r, _ => by cases (show _ = V.int i from r); exact .int i
  | .str x, _, _, r, _ => by cases (show _ = V.str x from r); exact .str x
  | .lst ds, _, n, ⟨a, xs, e, q, r⟩, o => by
    subst e
    have o : (decide (0 < n) && okEs (n - 1) ds) = true := o
    rw [Bool.and_eq_true] at o
    exact .lst (.inl (.inl (h.ext _ _ q))) (dps_of h ds xs (n - 1) r o.2)
  | .rol ds, _, n, ⟨a, xs, e, q, r⟩, o => by
    subst e
    have o : (decide (0 < n) && okEs (n - 1) ds) = true := o
    rw [Bool.and_eq_true] at o
    exact .lst (sql_mono h.ext q) (dps_of h ds xs (n - 1) r o.2)
  | .tup ds, _, n, ⟨a, xs, e, q, r⟩, o => by
    subst e
    have o : (decide (0 < n) && okEs (n - 1) ds) = true := o
    rw [Bool.and_eq_true] at o
    exact .tup (.inl (.inl (h.ext _ _ q))) (dps_of h ds xs (n - 1) r o.2)
  | .rot ds, _, n, ⟨a, xs, e, q, r⟩, o => by
    subst e
    have o : (decide (0 < n) && okEs (n - 1) ds) = true := o
    rw [Bool.and_eq_true] at o
    exact .tup (sqt_mono h.ext q) (dps_of h ds xs (n - 1) r o.2)
  | .ty _, _, _, _, o => nomatch o
  | .cls _, _, _, _, o => nomatch o
  | .hnd _, _, _, _, o => nomatch o
  | .st _, _, _, _, o => nomatch o
  | .exc _ _ _ _, _, _, _, o => nomatch o
theorem dps_of (h : HRep K w m H) : ∀ (ds : List D) (vs : List V) (n : Nat), RepAll K w ds vs → okEs n ds = true → DpAll K H vs (toPys ds)
  | [], _, _, r, _ => by cases (show _ = [] from r); exact .nil
  | d :: ds, _, n, ⟨v, r', e, a, b⟩, o => by
    subst e
    have o : (okE n d && okEs n ds) = true := o
    rw [Bool.and_eq_true] at o
    exact .cons (dp_of h d v n a o.1) (dps_of h ds r' n b o.2)
end
mutual
theorem okE_lay : ∀ (d : D) (n : Nat), okE n d = true → (toPy d).canLay0 = true ∧ (toPy d).depth ≤ n
  | .non, _, _ => ⟨rfl, Nat.zero_le _⟩
  | .bl b, _, _ => ⟨rfl, Nat.zero_le _⟩
  | .int i, _, _ => ⟨rfl, Nat.zero_le _⟩
  | .str x, _, o => ⟨o, Nat.zero_le _⟩
  | .lst ds, n, o => by
    have o : (decide (0 < n) && okEs (n - 1) ds) = true := o
    rw [Bool.and_eq_true] at o
    obtain ⟨h1, h2⟩ := okEs_lay ds (n - 1) o.2
    have h0 := of_decide_eq_true o.1
    exact ⟨h1, by show PyData.depthAll (toPys ds) + 1 ≤ n; omega⟩
  | .rol ds, n, o => by
    have o : (decide (0 < n) && okEs (n - 1) ds) = true := o
    rw [Bool.and_eq_true] at o
    obtain ⟨h1, h2⟩ := okEs_lay ds (n - 1) o.2
    have h0 := of_decide_eq_true o.1
    exact ⟨h1, by show PyData.depthAll (toPys ds) + 1 ≤ n; omega⟩
  | .tup ds, n, o => by
    have o : (decide (0 < n) && okEs (n - 1) ds) = true := o
    rw [Bool.and_eq_true] at o
    obtain ⟨h1, h2⟩ := okEs_lay ds (n - 1) o.2
    have h0 := of_decide_eq_true o.1
    exact ⟨h1, by show PyData.depthAll (toPys ds) + 1 ≤ n; omega⟩
  | .rot ds, n, o => by
    have o : (decide (0 < n) && okEs (n - 1) ds) = true := o
    rw [Bool.and_eq_true] at o
    obtain ⟨h1, h2⟩ := okEs_lay ds (n - 1) o.2
    have h0 := of_decide_eq_true o.1
    exact ⟨h1, by show PyData.depthAll (toPys ds) + 1 ≤ n; omega⟩
  | .ty _, _, o => nomatch o
  | .cls _, _, o => nomatch o
  | .hnd _, _, o => nomatch o
  | .st _, _, o => nomatch o
  | .exc _ _ _ _, _, o => nomatch o
theorem okEs_lay : ∀ (ds : List D) (n : Nat), okEs n ds = true → PyData.canLayAll0 (toPys ds) = true ∧ PyData.depthAll (toPys ds) ≤ n
  | [], _, _ => ⟨rfl, Nat.zero_le _⟩
  | d :: ds, n, o => by
    have o : (okE n d && okEs n ds) = true := o
    rw [Bool.and_eq_true] at o
    obtain ⟨h1, h2⟩ := okE_lay d n o.1
    obtain ⟨h3, h4⟩ := okEs_lay ds n o.2
    refine ⟨?_, ?_⟩
    · show (PyData.canLay0 (toPy d) && PyData.canLayAll0 (toPys ds)) = true
      rw [h1, h3]; rfl
    · show max (PyData.depth (toPy d)) (PyData.depthAll (toPys ds)) ≤ n
      omega
end
theorem okE_shaped {d : D} (o : okE 64 d = true) : SeqAt.shaped (toPy d) = true := by
  obtain ⟨h1, h2⟩ := okE_lay d 64 o
  unfold SeqAt.shaped
  rw [h1, decide_eq_true h2]; rfl
end
/-- == of data -/
def eqD (x y : D) : Bool := PyData.eqv (toPy x) (toPy y)
def oEq : DO := fun x y m Φ => okE 64 x = true ∧ okE 64 y = true ∧ Φ (.bl (eqD x y)) m
def oNe : DO := fun x y m Φ => okE 64 x = true ∧ okE 64 y = true ∧ Φ (.bl (!eqD x y)) m
theorem opl_eq {K : PySem.W.Frag} : OpL K (rEqD K) oEq := fun w m H x y u v Q Φ h r1 r2 vl ⟨o1, o2, q⟩ => ⟨_, _, dp_of h x u 64 r1 o1, dp_of h y v 64 r2 o2, okE_shaped o1, okE_shaped o2, vl.bl h q⟩
theorem opl_ne {K : PySem.W.Frag} : OpL K (rNeD K) oNe := fun w m H x y u v Q Φ h r1 r2 vl ⟨o1, o2, q⟩ => ⟨_, _, dp_of h x u 64 r1 o1, dp_of h y v 64 r2 o2, okE_shaped o1, okE_shaped o2, vl.bl h q⟩
theorem eqD_int {i j : Int} : eqD (.int i) (.int j) = decide (i = j) := by
  show (i == j) = _
  rw [Bool.beq_eq_decide_eq]
theorem eqD_bl {i j : Bool} : eqD (.bl i) (.bl j) = decide (i = j) := by
  show (i == j) = _
  rw [Bool.beq_eq_decide_eq]
/-- is None -/
def isNon : D → Option Bool
  | .non => some true
  | .bl _ => some false
  | .int _ => some false
  | .str _ => some false
  | .lst _ => some false
  | .tup _ => some false
  | .rol _ => some false
  | .rot _ => some false
  | .hnd _ => some false
  | _ => none
def oIsN : DO := fun x y m Φ => match isNon x, y with
  | some b, .non => Φ (.bl b) m
  | _, _ => False
def oNotN : DO := fun x y m Φ => match isNon x, y with
  | some b, .non => Φ (.bl (!b)) m
  | _, _ => False
/-! subscripts -/
def oIx : DO := fun x y m Φ => match x, y with
  | .str z, .int i => z.length ≤ LIM ∧ ∃ c, atI z.cps.toList i = some c ∧ Φ (.str ⟨#[c]⟩) m
  | x, .int i => match asL m x with
    | some ds => ∃ d, atI ds i = some d ∧ Φ d m
    | none => match asT x with
      | some ds => ∃ d, atI ds i = some d ∧ Φ d m
      | none => False
  | _, _ => False
theorem atI_rep {K : PySem.W.Frag} {w : Wd} {ds : List D} {vs : List V} {i : Int} {d : D} (r : RepAll K w ds vs) (e : atI ds i = some d) : ∃ v, atI vs i = some v ∧ Rep K w d v := by
  unfold atI at e ⊢
  rw [r.length]
  cases q : ixN ds.length i with
  | none => rw [q] at e; cases e
  | some j => rw [q] at e; exact r.get e
theorem opl_ix {K : PySem.W.Frag} : OpL K (rIx K) oIx := fun w m H x y u v Q Φ h r1 r2 vl q => by
  unfold oIx at q
  split at q
  · obtain ⟨z, c, e, q⟩ := q
    exact .inr (.inr ⟨_, _, c, r1, r2, lim_sz z, e, vl.str h q⟩)
  · split at q
    · rename_i e
      obtain ⟨d, e2, q⟩ := q
      obtain ⟨a, us, rfl, ha, ra⟩ := asL_ok h e r1
      obtain ⟨v', e3, rd⟩ := atI_rep ra e2
      exact .inl ⟨a, us, _, v', rfl, r2, ha, e3, vl d m w H v' (.refl w) h rd q⟩
    · split at q
      · rename_i e
        obtain ⟨d, e2, q⟩ := q
        obtain ⟨a, us, rfl, ha, ra⟩ := asT_ok h e r1
        obtain ⟨v', e3, rd⟩ := atI_rep ra e2
        exact .inr (.inl ⟨a, us, _, v', rfl, r2, ha, e3, vl d m w H v' (.refl w) h rd q⟩)
      · exact q.elim
  · exact q.elim
section
variable {X : Cx} {E : WX} {a b c : Expr} {Wa Wb Wc : DE} {pos : Pos}
theorem je_ix (ha : JE X E a Wa) (hb : JE X E b Wb) (hs : PlainIx b := by exact fun _ _ => rfl) : JE X E (.Subscript a b pos) (dOp oIx Wa Wb) := PE.imp (pe_ix ix_seq ha hb hs) fun _ _ _ h => dOp_ok opl_ix h
/-- xs[lo:hi] -/
abbrev DPt := Env → MM → (Option Int → MM → Prop) → XP → Prop
def liftO (K : PySem.W.Frag) (E : WX) (W : DPt) : TO := fun σ H Q => ∃ w ρ m Ψ Φ, At K E w σ H ρ m Ψ ∧ (∀ o m' w' H', w.le w' → HRep K w' m' H' → Φ o m' → Q o H') ∧ W ρ m Φ Ψ
abbrev JO (X : Cx) (E : WX) (e : Option Expr) (W : DPt) : Prop := PO X e (liftO X.K E W)
theorem PO.imp {e : Option Expr} {t t' : TO} (h : PO X e t) (i : ∀ σ H Q, t' σ H Q → t σ H Q) : PO X e t' := ⟨fun pins s σ H Q I q => h.run pins s σ H Q I (i σ H Q q)⟩
def dpN : DPt := fun _ m Φ _ => Φ none m
def dpS (e : DE) : DPt := fun ρ m Φ Ψ => e ρ m (fun d m1 => match d with
  | .int i => Φ (some i) m1
  | _ => False) Ψ
theorem jo_some (h : JE X E a Wa) : JO X E (some a) (dpS Wa) := PO.imp (po_some h) fun σ H Q ⟨w, ρ, m, Ψ, Φ, a, n, h⟩ => by
  refine ⟨w, ρ, m, Ψ, _, a, fun d m1 w1 H1 v l1 h1 r1 q1 => ?_, h⟩
  cases d with
  | int i => exact ⟨i, r1, n (some i) m1 w1 H1 l1 h1 q1⟩
  | _ => exact False.elim q1
def cutD (xs : List D) (lo hi : Option Int) : List D := (xs.drop (HT.sIx xs.length 0 lo)).take (HT.sIx xs.length xs.length hi - HT.sIx xs.length 0 lo)
def dSl (a : DE) (lo hi : DPt) : DE := fun ρ m Φ Ψ => a ρ m (fun d m1 => lo ρ m1 (fun l m2 => hi ρ m2 (fun u m3 => match asL m3 d with
  | some ds => Φ (.lst (cutD ds l u)) m3
  | none => False) Ψ) Ψ) Ψ
end
end Dl

namespace Dl
open PySem L2 PyProof.Rows

/-! ### comprehensions -/
abbrev XF : XP := fun _ _ _ => False
abbrev EF : WX := fun _ _ _ _ => False
def wipeD (ρ : Env) : List Nat → Env
  | [] => ρ
  | v :: vs => (wipeD ρ vs).set v none
theorem Slots.wipes {K : PySem.W.Frag} {w : Wd} {σ : L2.St} {ρ : Env} (h : Slots K w σ ρ) : ∀ vs, Slots K w (L2.wipe σ vs) (wipeD ρ vs)
  | [] => h
  | v :: vs => (Slots.wipes h vs).wipe v
def lcW (g : DG) (tt : DT) (te : DE) (ρ : Env) (Φ : D → MM → Prop) : List D → List D → MM → Prop
  | [], acc, m => Φ (.lst acc) m
  | d :: ds, acc, m => g d ρ (m.push (.lst acc)) fun ρ1 m1 => m1 = m.push (.lst acc) ∧ tt ρ1 (m.push (.lst acc)) (fun b m2 => m2 = m.push (.lst acc) ∧ if b = true then
      te ρ1 (m.push (.lst acc)) (fun y m3 => m3 = m.push (.lst acc) ∧ acc.length < LIM ∧ clD m.M.length y = true ∧ lcW g tt te ρ Φ ds (acc ++ [y]) m) XF
    else lcW g tt te ρ Φ ds acc m) XF
def dLc (it : DI) (g : DG) (tt : DT) (te : DE) (vs : List Nat) : DE := fun ρ m Φ Ψ => it ρ m (fun ds m1 => lcW g tt te (wipeD ρ vs) Φ ds [] m1) Ψ
def dYes : DT := fun _ m Φ _ => Φ true m
theorem xlift_F {K : PySem.W.Frag} {w : Wd} {E : WX} {σ : L2.St} : XLift K w E σ XF := fun _ _ _ _ _ _ _ _ _ _ _ q => q.elim
theorem clAll_app {n : Nat} : ∀ {xs ys : List D}, clAll n xs = true → clAll n ys = true → clAll n (xs ++ ys) = true
  | [], ys, _, h => h
  | x :: xs, ys, h, g => by
    have h : (clD n x && clAll n xs) = true := h
    rw [Bool.and_eq_true] at h
    show (clD n x && clAll n (xs ++ ys)) = true
    rw [h.1, clAll_app h.2 g]; rfl
theorem lc_ok {K : PySem.W.Frag} {E : WX} {wi : DI} {g : DG} {tt : DT} {te : DE} {vs : List Nat} {σ : L2.St} {H : Hp} {Q : VK} (h : lift K E (dLc wi g tt te vs) σ H Q) : tLc (liftI K E wi) (liftG K vs g) (liftT K EF tt) (lift K EF te) vs σ H Q := by
  obtain ⟨w, ρ, m, Ψ, Φ, a, vl, h⟩ := h
  refine ⟨w, ρ, m, Ψ, _, a, fun ds m1 w1 H1 J l1 h1 wk q1 => ?_, h⟩
  intro D hD
  refine ⟨fun i k H => k = ds.length - i ∧ i ≤ ds.length ∧ ∃ w' acc, w1.le w' ∧ HRep K w' (m1.push (.lst acc)) H ∧ w'.th[m1.M.length]? = some D ∧ clAll m1.M.length acc = true ∧ lcW g tt te (wipeD ρ vs) Φ (ds.drop i) acc m1, ⟨ds.length, by omega, Nat.zero_le _, w1.add D, [], Wd.le_add, h1.add hD ⟨[], upd_same, rfl⟩, ?_, rfl, q1⟩, ?_⟩
  · show (w1.th ++ [D])[m1.M.length]? = some D
    rw [← h1.len, List.getElem?_append_right (Nat.le_refl _)]; simp
  rintro i k H2 ⟨rfl, hi, w2, acc, l2, h2, hD2, hcl, q2⟩
  by_cases hlt : i < ds.length
  · have ed : ds[i]? = some ds[i] := List.getElem?_eq_getElem hlt
    have dr : ds.drop i = ds[i] :: ds.drop (i + 1) := List.drop_eq_getElem_cons hlt
    rw [dr] at q2
    refine .inr ⟨wk.go w2 _ H2 i _ l2 h2 ed, fun H' => ∃ w' acc, w1.le w' ∧ HRep K w' (m1.push (.lst acc)) H' ∧ w'.th[m1.M.length]? = some D ∧ clAll m1.M.length acc = true ∧ lcW g tt te (wipeD ρ vs) Φ (ds.drop (i + 1)) acc m1, fun H' z => ⟨ds.length - (i + 1), by omega, rfl, hlt, z⟩, fun x H3 y => ?_⟩
    obtain ⟨w3, l3, h3, r3⟩ := wk.yld w2 _ H2 i _ x H3 l2 h2 ed y
    have s3 : Slots K w3 (wipe σ vs) (wipeD ρ vs) := ((a.s.mono l1).mono (l2.trans l3)).wipes vs
    refine ⟨w3, wipeD ρ vs, _, ds[i], _, h3, s3, r3, fun ρ' m' w' H' σ' l h' s' e q => ⟨e.trans wipe_wipe, ?_⟩, q2⟩
    obtain ⟨rfl, q⟩ := q
    refine ⟨w', ρ', _, XF, _, ⟨h', s', xlift_F⟩, fun b m4 w4 H4 l4 h4 q4 => ?_, q⟩
    obtain ⟨rfl, q4⟩ := q4
    have l24 : w2.le w4 := l3.trans (l.trans l4)
    cases b with
    | true =>
      rw [if_pos rfl] at q4
      show (if true = true then _ else _)
      rw [if_pos rfl]
      refine ⟨w4, ρ', _, XF, _, ⟨h4, s'.mono l4, xlift_F⟩, fun y m5 w5 H5 v l5 h5 r5 q5 => ?_, q4⟩
      obtain ⟨rfl, hz, hy, q5⟩ := q5
      have hD5 : w5.th[m1.M.length]? = some D := l5.th _ _ (l24.th _ _ hD2)
      have hM : (m1.push (.lst acc)).M[m1.M.length]? = some (.lst acc) := by
        show (m1.M ++ [MO.lst acc])[m1.M.length]? = _
        rw [List.getElem?_append_right (Nat.le_refl _)]; simp
      obtain ⟨xs, hx, r⟩ := h5.obj _ D _ hD5 hM
      refine ⟨xs, hx, lim_lt (by rw [r.length]; exact hz), w5, acc ++ [y], l2.trans (l24.trans l5), ?_, hD5, clAll_app hcl (by show (clD _ y && true) = true; rw [hy]; rfl), q5⟩
      have z := h5.wr (ho := .lst (xs ++ [v])) (o' := .lst (acc ++ [y])) hD5 hM (fun z => by cases z) ⟨_, upd_same, r.append ⟨v, [], rfl, r5, rfl⟩⟩
      have e : (m1.push (.lst acc)).M.set m1.M.length (.lst (acc ++ [y])) = (m1.push (.lst (acc ++ [y]))).M := by
        show (m1.M ++ [MO.lst acc]).set m1.M.length (.lst (acc ++ [y])) = m1.M ++ [MO.lst (acc ++ [y])]
        rw [List.set_append_right _ _ (Nat.le_refl _)]; simp
      rw [e] at z
      exact z
    | false =>
      rw [if_neg Bool.false_ne_true] at q4
      show (if false = true then _ else _)
      rw [if_neg Bool.false_ne_true]
      exact ⟨w4, acc, l2.trans l24, h4, l24.th _ _ hD2, hcl, q4⟩
  · have e : i = ds.length := by omega
    subst e
    rw [List.drop_length] at q2
    refine .inl ⟨wk.stop w2 _ H2 l2 h2, ?_⟩
    have hM : (m1.push (.lst acc)).M[m1.M.length]? = some (.lst acc) := by
      show (m1.M ++ [MO.lst acc])[m1.M.length]? = _
      rw [List.getElem?_append_right (Nat.le_refl _)]; simp
    obtain ⟨xs, fD, hx, r, hf⟩ := h2.frz hD2 hM
    have et : ((m1.push (.lst acc)).M.set m1.M.length .dead).take m1.M.length = m1.M := by
      show ((m1.M ++ [MO.lst acc]).set m1.M.length .dead).take m1.M.length = m1.M
      rw [List.set_append_right _ _ (Nat.le_refl _), List.take_left']
      rfl
    have hc := hf.cut (n := m1.M.length) (fun o ho => by
      have ho : o ∈ ((m1.push (.lst acc)).M.set m1.M.length .dead).take m1.M.length := ho
      rw [et] at ho
      exact h1.cls o ho)
    have em : (MM.cut ⟨(m1.push (.lst acc)).M.set m1.M.length .dead, (m1.push (.lst acc)).s⟩ m1.M.length) = m1 := by
      show (⟨((m1.push (.lst acc)).M.set m1.M.length .dead).take m1.M.length, m1.s⟩ : MM) = m1
      rw [et]
    rw [em] at hc
    have lc : w1.le ((w2.put D (.lst xs)).cut m1.M.length) := Wd.le_cut (l2.trans (Wd.le_put fD)) (Nat.le_of_eq h1.len)
    refine vl (.lst acc) m1 _ H2 _ (l1.trans lc) hc ?_ q2
    exact ⟨D, xs, rfl, upd_same, RepAll.cut _ _ (RepAll.mono (Wd.le_put fD) _ _ r) hcl⟩
section
variable {X : Cx} {E : WX} {a b c : Expr} {Wa Wb Wc : DE} {pos : Pos}
theorem jts_nil {K : PySem.W.Frag} : PTs X [] (liftT K E dYes) := ⟨fun pins s σ H Q I ⟨w, ρ, m, Ψ, Φ, a, n, h⟩ => pts_nil.run pins s σ H Q I (n true m w H (.refl w) a.h h)⟩
theorem jts_one {tc : DT} (h : JT X E c tc) : PTs X [c] (liftT X.K E tc) := pts_one h
theorem je_lc {elt tg iter : Expr} {ifs : List Expr} {scope : Scope} {own : List (Str × Nat)} {pos : Pos} {wi : DI} {g : DG} {tt : DT} {te : DE} (hc : X.calm = true) (hN : X.N.Nodup) (hi : JI X E tg iter wi) (ok : BlkOk X.N X.env.scope scope own)
    (hg : ∀ (s : Shared) (H : Hp) (C : Addr) (cl : List (Str × Addr)) (fp : List Addr), PG (X.blk s H scope (compEnvC scope cl C X.env) fp) tg (liftG X.K (own.map (·.2)) g))
    (ht : ∀ (s : Shared) (H : Hp) (C : Addr) (cl : List (Str × Addr)) (fp : List Addr), PTs (X.blk s H scope (compEnvC scope cl C X.env) fp) ifs (liftT X.K EF tt))
    (he : ∀ (s : Shared) (H : Hp) (C : Addr) (cl : List (Str × Addr)) (fp : List Addr), JE (X.blk s H scope (compEnvC scope cl C X.env) fp) EF elt te) (hs : ∀ x, foldedSetIterable iter X.env x = pure x := by intro _; rfl) :
    JE X E (.ListComp elt [⟨tg, iter, ifs, 0⟩] scope pos) (dLc wi g tt te (own.map (·.2))) := PE.imp (pe_lc hc hN hi ok hg ht he hs) fun _ _ _ h => lc_ok h
/-! ### calls of built-ins -/
abbrev DCB := List D → MM → (D → MM → Prop) → Prop
def CbL (K : PySem.W.Frag) (r : List V → Hp → VK → Prop) (c : DCB) : Prop := ∀ w m H ds vs Q Φ, HRep K w m H → RepAll K w ds vs → VLift K w Q Φ → c ds m Φ → r vs H Q
def dCB (c : DCB) (r : DA) : DE := fun ρ m Φ Ψ => r ρ m (fun ds m1 => c ds m1 Φ) Ψ
variable {e : Expr} {es : List Expr} {x : Str} {p : Pos} {Ws : DA} {r : List V → Hp → VK → Prop} {cb : DCB}
theorem je_callB {id : String} (hc : CallR X (.builtin id) r) (hl : CbL X.K r cb) (hg : Gl X x) (hm : X.mg x = none) (hv : bootBuiltins x = some (.builtin id)) (ha : JA X E (e :: es) Ws) (hn : x ≠ "__name__" := by decide) (hdb : (x == ("__debug__" : Str)) = false := by decide)
    (he : starEach (e :: es) X.env = (false, eval e X.env) :: starEach es X.env := by rfl) (hpl : (backTo pos (starEach es X.env)).any (·.1) = false := by rfl) : JE X E (.Call (.Name x p) (e :: es) [] pos) (dCB cb Ws) :=
  PE.imp (pe_callB hc hg hm hv ha hn hdb he hpl) fun σ H Q ⟨w, ρ, m, Ψ, Φ, a, vl, h⟩ => ⟨w, ρ, m, Ψ, _, a, fun ds m1 w1 H1 vs l1 h1 r1 q1 => hl w1 m1 H1 ds vs Q Φ h1 r1 (vl.mono l1) q1, h⟩
theorem je_callTy {T : String} (hc : CallR X (.type T) r) (hl : CbL X.K r cb) (hg : Gl X x) (hm : X.mg x = none) (hv : bootBuiltins x = some (.type T)) (ha : JA X E (e :: es) Ws) (hn : x ≠ "__name__" := by decide) (hdb : (x == ("__debug__" : Str)) = false := by decide)
    (he : starEach (e :: es) X.env = (false, eval e X.env) :: starEach es X.env := by rfl) (hpl : (backTo pos (starEach es X.env)).any (·.1) = false := by rfl) : JE X E (.Call (.Name x p) (e :: es) [] pos) (dCB cb Ws) :=
  PE.imp (pe_callTy hc hg hm hv ha hn hdb he hpl) fun σ H Q ⟨w, ρ, m, Ψ, Φ, a, vl, h⟩ => ⟨w, ρ, m, Ψ, _, a, fun ds m1 w1 H1 vs l1 h1 r1 q1 => hl w1 m1 H1 ds vs Q Φ h1 r1 (vl.mono l1) q1, h⟩
end
def cLen : DCB := fun ds m Φ => match ds with
  | [.str z] => z.length ≤ LIM ∧ Φ (.int z.length) m
  | [d] => match asL m d with
    | some xs => Φ (.int xs.length) m
    | none => match asT d with
      | some xs => Φ (.int xs.length) m
      | none => False
  | _ => False
theorem cbl_len {K : PySem.W.Frag} : CbL K (fun xs H Q => ∃ x n, xs = [x] ∧ LenV K x H n ∧ Q (.int n) H) cLen := fun w m H ds vs Q Φ h r vl q => by
  unfold cLen at q
  split at q
  · obtain ⟨v, rfl, rv⟩ := rep1 r
    cases (show v = V.str _ from rv)
    exact ⟨_, _, rfl, ⟨lim_sz q.1, rfl⟩, vl.int h q.2⟩
  · obtain ⟨v, rfl, rv⟩ := rep1 r
    split at q
    · rename_i e
      obtain ⟨a, us, rfl, ha, ra⟩ := asL_ok h e rv
      exact ⟨_, _, rfl, .inl ⟨us, ha, rfl⟩, vl.int h (by rw [ra.length]; exact q)⟩
    · split at q
      · rename_i e
        obtain ⟨a, us, rfl, ha, ra⟩ := asT_ok h e rv
        exact ⟨_, _, rfl, .inr ⟨us, ha, rfl⟩, vl.int h (by rw [ra.length]; exact q)⟩
      · exact q.elim
  · exact q.elim
def cInt : DCB := fun ds m Φ => match ds with
  | [.int i] => Φ (.int i) m
  | [.bl b] => Φ (.int (if b then 1 else 0)) m
  | _ => False
theorem cbl_int {K : PySem.W.Frag} : CbL K (fun xs H Q => (∃ i, xs = [V.int i] ∧ Q (.int i) H) ∨ ∃ k, xs = [V.bl k] ∧ Q (.int (if k then 1 else 0)) H) cInt := fun w m H ds vs Q Φ h r vl q => by
  unfold cInt at q
  split at q
  · obtain ⟨v, rfl, rv⟩ := rep1 r
    cases (show v = V.int _ from rv)
    exact .inl ⟨_, rfl, vl.int h q⟩
  · obtain ⟨v, rfl, rv⟩ := rep1 r
    cases (show v = V.bl _ from rv)
    exact .inr ⟨_, rfl, vl.int h q⟩
  · exact q.elim
def cAbs : DCB := fun ds m Φ => match ds with
  | [.int i] => Φ (.int (if i < 0 then -i else i)) m
  | _ => False
theorem cbl_abs {K : PySem.W.Frag} : CbL K (fun xs H Q => ∃ i, xs = [V.int i] ∧ Q (.int (if i < 0 then -i else i)) H) cAbs := fun w m H ds vs Q Φ h r vl q => by
  unfold cAbs at q
  split at q
  · obtain ⟨v, rfl, rv⟩ := rep1 r
    cases (show v = V.int _ from rv)
    exact ⟨_, rfl, vl.int h q⟩
  · exact q.elim
def intsD : List D → Option (List Int)
  | [] => some []
  | .int i :: r => (intsD r).map (i :: ·)
  | _ => none
theorem ints_ok {K : PySem.W.Frag} {w : Wd} : ∀ {ds : List D} {vs : List V} {ns : List Int}, intsD ds = some ns → RepAll K w ds vs → vs = ns.map V.int
  | [], vs, ns, e, r => by cases e; exact r
  | d :: ds, vs, ns, e, r => by
    obtain ⟨v, r', rfl, rv, rr⟩ := r
    cases d with
    | int i =>
      have e : (intsD ds).map (i :: ·) = some ns := e
      cases q : intsD ds with
      | none => rw [q] at e; cases e
      | some ns' =>
        rw [q] at e; cases e
        cases (show v = V.int i from rv)
        rw [ints_ok q rr]; rfl
    | _ => cases e
theorem ints_map : ∀ (ns : List Int), intsD (ns.map D.int) = some ns
  | [] => rfl
  | n :: ns => by
    show (intsD (ns.map D.int)).map (n :: ·) = _
    rw [ints_map ns]; rfl
def cSum : DCB := fun ds m Φ => match ds with
  | [d] => match asL m d with
    | some xs => ∃ ns, intsD xs = some ns ∧ Φ (.int ns.sum) m
    | none => False
  | _ => False
def cMax2 : DCB := fun ds m Φ => match ds with
  | [.int i, .int j] => Φ (.int (if j > i then j else i)) m
  | _ => False
def cMin2 : DCB := fun ds m Φ => match ds with
  | [.int i, .int j] => Φ (.int (if j < i then j else i)) m
  | _ => False
/-- list(x): a new list, frozen or changing -/
def cList : DCB := fun ds m Φ => match ds with
  | [d] => match asL m d with
    | some xs => Φ (.lst xs) m
    | none => match asT d with
      | some xs => Φ (.lst xs) m
      | none => False
  | _ => False
end Dl

namespace Dl
open PySem L2 PyProof.Rows

/-! ### isinstance -/
def tyD (m : MM) : D → Option String
  | .non => some "NoneType"
  | .bl _ => some "bool"
  | .int _ => some "int"
  | .str _ => some "str"
  | .lst _ => some "list"
  | .tup _ => some "tuple"
  | .hnd k => (moL m.M[k]?).map fun _ => "list"
  | _ => none
theorem tyD_ok {K : PySem.W.Frag} {w : Wd} {m : MM} {H : Hp} {d : D} {v : V} {T : String} (h : HRep K w m H) (e : tyD m d = some T) (r : Rep K w d v) : TyX K H v (.type T) := by
  cases d with
  | non => cases e; cases (show v = .non from r); exact .base .non
  | bl b => cases e; cases (show v = .bl b from r); exact .base (.bl b)
  | int b => cases e; cases (show v = .int b from r); exact .base (.int b)
  | str b => cases e; cases (show v = .str b from r); exact .base (.str b)
  | lst es => cases e; obtain ⟨a, xs, rfl, q, _⟩ := r; exact .base (.lst (h.ext _ _ q))
  | tup es => cases e; obtain ⟨a, xs, rfl, q, _⟩ := r; exact .base (.tup (h.ext _ _ q))
  | hnd k =>
    obtain ⟨a, rfl, q2⟩ := r
    have e : (moL m.M[k]?).map (fun _ => "list") = some T := e
    cases q : moL m.M[k]? with
    | none => rw [q] at e; cases e
    | some ds =>
      rw [q] at e; cases e
      obtain ⟨xs, hx, _⟩ := h.obj k a _ q2 (moL_eq q)
      exact .base (.lst hx)
  | _ => cases e
def cIsi : DCB := fun ds m Φ => match ds with
  | [x, .ty n] => match (tyD m x).bind fun t => kitB t n with
    | some b => Φ (.bl b) m
    | none => False
  | _ => False
theorem cbl_isi {K : PySem.W.Frag} : CbL K (rIsi K) cIsi := fun w m H ds vs Q Φ h r vl q => by
  unfold cIsi at q
  split at q
  · rename_i x n
    obtain ⟨v, u, rfl, rv, ru⟩ := rep2 r
    cases (show u = V.ty n from ru)
    split at q
    · rename_i b e
      cases e1 : tyD m x with
      | none => rw [e1] at e; cases e
      | some t =>
        rw [e1] at e
        exact ⟨v, .ty n, .type t, .type n, b, rfl, .ty n, tyD_ok h e1 rv, kit_ty e, vl.bl h q⟩
    · exact q.elim
  · exact q.elim
section
variable {X : Cx} {E : WX} {a b c : Expr} {Wa Wb Wc : DE} {pos : Pos} {e : Expr} {es : List Expr} {Ws : DA}
theorem je_ty {x : Str} {n : String} {pos : Pos} (hg : Gl X x) (hm : X.mg x = none) (hv : bootBuiltins x = some (.type n)) (hn : x ≠ "__name__" := by decide) (hd : (x == ("__debug__" : Str)) = false := by decide) : JE X E (.Name x pos) (dC (.ty n)) :=
  je_of (v := .ty n) (pe_bltn hg hm hv rfl hn hd) fun _ => rfl
/-! ### methods of lists -/
def dMethL (c : D → List D → MM → (D → MM → Prop) → Prop) (o : DE) (r : DA) : DE := fun ρ m Φ Ψ => o ρ m (fun x m1 => (asL m1 x).isSome = true ∧ r ρ m1 (fun ds m2 => c x ds m2 Φ) Ψ) Ψ
def MtL (K : PySem.W.Frag) (r : V → List V → Hp → VK → Prop) (c : D → List D → MM → (D → MM → Prop) → Prop) : Prop := ∀ w m H x ds u vs Q Φ, HRep K w m H → Rep K w x u → RepAll K w ds vs → VLift K w Q Φ → c x ds m Φ → r u vs H Q
theorem tyL_ok {K : PySem.W.Frag} {w : Wd} {m : MM} {H : Hp} {d : D} {v : V} (h : HRep K w m H) (e : (asL m d).isSome = true) (r : Rep K w d v) : tyV K "list" v H := by
  obtain ⟨ds, e⟩ := Option.isSome_iff_exists.mp e
  obtain ⟨a, xs, rfl, q, _⟩ := asL_ok h e r
  exact .inl ⟨rfl, xs, q⟩
theorem je_mL {name : Str} {id : String} {r : V → List V → Hp → VK → Prop} {c : D → List D → MM → (D → MM → Prop) → Prop} {apos cpos : Pos} {o : Expr} {Wo : DE} (slot : Slot "list" name id) (hty : typeOf (.builtin id) = pure (.type "method_descriptor")) (hm : MtR X id r) (hl : MtL X.K r c) (ho : JE X E o Wo) (ha : JA X E (e :: es) Ws)
    (hbase : attributeBase o name X.env (eval o X.env) = eval o X.env := by rfl)
    (hfew : ((backTo cpos (starEach (e :: es) X.env)).all (fun x => !x.1) && (backToKw cpos (keywordEach [] X.env)).all (fun x => x.1.isSome)
      && decide ((e :: es).length + ([] : List Keyword).length + (if ([] : List Keyword).isEmpty then 0 else 1) < 30)) = true := by rfl)
    (hline : (apos.endLine == cpos.line) = true := by rfl) (hs : starEach (e :: es) X.env = (false, eval e X.env) :: starEach es X.env := by rfl) (hplain : (backTo cpos (starEach es X.env)).any (·.1) = false := by rfl) :
    JE X E (.Call (.Attribute o name apos) (e :: es) [] cpos) (dMethL c Wo Ws) := PE.imp (pe_bm PySem.F.plainAttrs_list slot hty hm ho ha hbase hfew hline hs hplain) fun σ H Q ⟨w, ρ, m, Ψ, Φ, a, vl, h⟩ => by
  refine ⟨w, ρ, m, Ψ, _, a, fun d m1 w1 H1 v l1 h1 r1 q1 => ?_, h⟩
  refine ⟨tyL_ok h1 q1.1 r1, w1, ρ, m1, Ψ, _, a.to l1 h1, fun ds m2 w2 H2 vs l2 h2 r2 q2 => ?_, q1.2⟩
  exact hl w2 m2 H2 d ds v vs Q Φ h2 (Rep.mono l2 _ _ r1) r2 (vl.mono (l1.trans l2)) q2
end
theorem VLift.wr {K : PySem.W.Frag} {w : Wd} {m : MM} {H : Hp} {Q : VK} {Φ : D → MM → Prop} {k : Nat} {a : Addr} {ds ds' : List D} {xs' : List V} {d : D} {v : V} (vl : VLift K w Q Φ) (h : HRep K w m H) (e : w.th[k]? = some a) (eo : m.M[k]? = some (.lst ds)) (r : RepAll K w ds' xs')
    (rd : Rep K w d v) (q : Φ d ⟨m.M.set k (.lst ds'), m.s⟩) : Q v (upd H a (.lst xs')) :=
  vl d _ w _ v (.refl w) (h.wr (o' := .lst ds') e eo (fun z => by cases z) ⟨xs', upd_same, r⟩) rd q
def oApp : D → List D → MM → (D → MM → Prop) → Prop := fun x ds m Φ => match x, ds with
  | .hnd k, [y] => match moL m.M[k]? with
    | some xs => xs.length < LIM ∧ Φ .non ⟨m.M.set k (.lst (xs ++ [y])), m.s⟩
    | none => False
  | _, _ => False
theorem mtl_app {K : PySem.W.Frag} : MtL K rAppend oApp := fun w m H x ds u vs Q Φ h r rs vl q => by
  unfold oApp at q
  split at q
  · split at q
    · rename_i k y _ xs e
      obtain ⟨a, rfl, q2⟩ := r
      obtain ⟨v, rfl, rv⟩ := rep1 rs
      obtain ⟨us, hx, ru⟩ := h.obj k a _ q2 (moL_eq e)
      exact ⟨a, us, v, rfl, rfl, hx, lim_lt (by rw [ru.length]; exact q.1), vl.wr (ds' := xs ++ [y]) (d := .non) h q2 (moL_eq e) (ru.append ⟨v, [], rfl, rv, rfl⟩) rfl q.2⟩
    · exact q.elim
  · exact q.elim
def oPop : D → List D → MM → (D → MM → Prop) → Prop := fun x ds m Φ => match x, ds with
  | .hnd k, [] => match moL m.M[k]? with
    | some xs => ∃ y, xs[xs.length - 1]? = some y ∧ Φ y ⟨m.M.set k (.lst xs.dropLast), m.s⟩
    | none => False
  | _, _ => False
theorem RepAll.dropLast {K : PySem.W.Frag} {w : Wd} {ds : List D} {vs : List V} (r : RepAll K w ds vs) : RepAll K w ds.dropLast vs.dropLast := by
  rw [List.dropLast_eq_take, List.dropLast_eq_take, r.length]
  exact r.take _
theorem RepAll.eraseIdx {K : PySem.W.Frag} {w : Wd} {ds : List D} {vs : List V} (r : RepAll K w ds vs) (i : Nat) : RepAll K w (ds.eraseIdx i) (vs.eraseIdx i) := by
  rw [List.eraseIdx_eq_take_drop_succ, List.eraseIdx_eq_take_drop_succ]
  exact (r.take i).append (r.drop (i + 1))
def oPopAt : D → List D → MM → (D → MM → Prop) → Prop := fun x ds m Φ => match x, ds with
  | .hnd k, [.int i] => match moL m.M[k]? with
    | some xs => (-(2 ^ 63) ≤ i ∧ i < 2 ^ 63) ∧ ∃ j y, seqIndex? i xs.length = some j ∧ xs[j]? = some y ∧ Φ y ⟨m.M.set k (.lst (xs.eraseIdx j)), m.s⟩
    | none => False
  | _, _ => False
theorem mtl_popAt {K : PySem.W.Frag} : MtL K rPopAt oPopAt := fun w m H x ds u vs Q Φ h r rs vl q => by
  unfold oPopAt at q
  split at q
  · split at q
    · rename_i k i _ xs e
      obtain ⟨a, rfl, q2⟩ := r
      obtain ⟨v0, rfl, r0⟩ := rep1 rs
      cases (show v0 = V.int i from r0)
      obtain ⟨us, hx, ru⟩ := h.obj k a _ q2 (moL_eq e)
      obtain ⟨q1, j, y, ej, ey, q⟩ := q
      obtain ⟨v, ev, rv⟩ := ru.get ey
      exact ⟨a, us, i, j, v, rfl, rfl, hx, q1.1, q1.2, by rw [ru.length]; exact ej, ev, vl.wr h q2 (moL_eq e) (ru.eraseIdx j) rv q⟩
    · exact q.elim
  · exact q.elim
section
variable {X : Cx} {E : WX} {a b c : Expr} {Wa Wb Wc : DE} {pos : Pos} {e : Expr} {es : List Expr} {Ws : DA}
/-- o[i] = e -/
def dSetIx (e o i : DE) : DS := fun N Ψ ρ m => e ρ m (fun v m1 => o ρ m1 (fun x m2 => i ρ m2 (fun j m3 => match x, j with
  | .hnd k, .int j => match moL m3.M[k]? with
    | some xs => ∃ n, ixN xs.length j = some n ∧ N.nx ρ ⟨m3.M.set k (.lst (xs.set n v)), m3.s⟩
    | none => False
  | _, _ => False) (Ψ ρ)) (Ψ ρ)) (Ψ ρ)
theorem js_setIx {o i : Expr} {Wo Wi : DE} {p1 : Pos} (he : JE X E a Wa) (ho : JE X E o Wo) (hi : JE X E i Wi) (h0 : PG X (.Subscript o i p1) (gSub (lift X.K E Wo) (lift X.K E Wi) rSetL))
    (hs : swapsWithSole [.Subscript o i p1] a pos.line X.env = pure false := by rfl) (hw : swappedStores [.Subscript o i p1] a X.env = pure none := by rfl) (h1 : (assignEach [.Subscript o i p1] X.env).map (·.2) = [assign (.Subscript o i p1) X.env] := by rfl) :
    JS X E (.Assign [.Subscript o i p1] a pos) (dSetIx Wa Wo Wi) := PS.imp (ps_asg he h0 hs hw h1) fun D σ H ⟨w, ρ, m, Ψ, N, a, n, h⟩ => by
  refine ⟨w, ρ, m, Ψ ρ, _, a.at, fun d m1 w1 H1 v l1 h1 r1 q1 => ?_, h⟩
  have a1 := a.to l1 h1
  refine ⟨w1, ρ, m1, Ψ ρ, _, a1.at, fun x m2 w2 H2 u l2 h2 r2 q2 => ?_, q1⟩
  refine ⟨w2, ρ, m2, Ψ ρ, _, (a1.to l2 h2).at, fun j m3 w3 H3 y l3 h3 r3 q3 => ?_, q2⟩
  split at q3
  · split at q3
    · rename_i k j _ xs e
      obtain ⟨nn, en, q⟩ := q3
      obtain ⟨b, rfl, q2⟩ := Rep.mono l3 _ _ r2
      cases (show y = V.int j from r3)
      obtain ⟨us, hx, ru⟩ := h3.obj k b _ q2 (moL_eq e)
      refine ⟨b, us, j, nn, rfl, rfl, hx, by rw [ru.length]; exact en, ?_⟩
      have l13 := l1.trans (l2.trans l3)
      exact n.nx ρ _ w3 _ σ l13 (h3.wr (o' := .lst (xs.set nn d)) q2 (moL_eq e) (fun z => by cases z) ⟨_, upd_same, ru.set nn (Rep.mono (l2.trans l3) _ _ r1)⟩) (a.s.mono l13) q
    · exact q3.elim
  · exact q3.elim
end

/-! ### a def by its body -/
theorem slots_start {K : PySem.W.Frag} {w : Wd} {ds : List D} {vs : List V} {N : List Str} (r : RepAll K w ds vs) : Slots K w (L2.start N vs) (ds.map some ++ List.replicate (N.length - ds.length) none) := by
  unfold L2.start
  refine ⟨by simp [r.length], fun i d e => ?_⟩
  have hi : i < ds.length := by
    rcases Nat.lt_or_ge i ds.length with h | h
    · exact h
    · rw [List.getElem?_append_right (by simpa using h), List.getElem?_replicate] at e
      split at e <;> cases e
  rw [List.getElem?_append_left (by simpa using hi), List.getElem?_map] at e
  cases q : ds[i]? with
  | none => rw [q] at e; cases e
  | some d' =>
    rw [q] at e; cases e
    obtain ⟨v, ev, rv⟩ := r.get q
    refine ⟨v, ?_, rv⟩
    rw [List.getElem?_append_left (by simpa [r.length] using hi), List.getElem?_map, ev]; rfl
section
variable {P : Program} {w : World} {K : PySem.W.Frag} {mg : Str → Option Value} {base : Heap}
abbrev wishE (E : XK) : WX := fun cls d _ H => E cls d H
theorem takesD {N : List Str} {qual : Str} {st : Stmt} {f : Addr} {cdv : Value} {A : Around} {outer : List PySem.Env} {s : Shared} {H : Hp} {E : XK} : Takes (cxOf (L2.CX P w) P w K mg base N qual (defScope st) f cdv A outer s H E) (wishE E) := takes_of rfl rfl rfl rfl
theorem passD {N : List Str} {qual : Str} {st : Stmt} {f : Addr} {cdv : Value} {A : Around} {outer : List PySem.Env} {s : Shared} {H : Hp} {E : XK} :
    PassesOwn (model (cxOf (L2.CX P w) P w K mg base N qual (defScope st) f cdv A outer s H E).prog (cxOf (L2.CX P w) P w K mg base N qual (defScope st) f cdv A outer s H E).w) (cxOf (L2.CX P w) P w K mg base N qual (defScope st) f cdv A outer s H E).A
      (cxOf (L2.CX P w) P w K mg base N qual (defScope st) f cdv A outer s H E).env (cxOf (L2.CX P w) P w K mg base N qual (defScope st) f cdv A outer s H E).xe := passes_of rfl
theorem okD {x qual : Str} {st : Stmt} {f : Addr} {fd : FuncData} {N ps : List Str} {k : Nat} {C : DC} {W : DS} (F : Fun K x qual st f fd) (S : FnScope N ps (defScope st))
    (hb : ∀ (cdv : Value) (A : Around) (outer : List PySem.Env) (s : Shared) (H : Hp) (E : XK), Room k (A.deeper (envOfC qual (defScope st) s.heap.objs.size f cdv)) → JSs (cxOf (L2.CX P w) P w K mg base N qual (defScope st) f cdv A outer s H E) (wishE E) (defBody st) W)
    (hC : ∀ ds m Φ Ψ, ds.length = ps.length → C ds m Φ Ψ → W { nx := fun _ m' => Φ .non m', rt := Φ } (fun _ => Ψ) (ds.map some ++ List.replicate (N.length - ds.length) none) m) :
    FnOk P w K mg base (L2.CX P w) (k + 1) f fd ps (spOf K ps.length C) := by
  refine F.okX S (fun vs H Q E h => h.1) fun cdv A outer s H vs Q E hr h => ⟨_, hb cdv A outer s H E hr, ?_⟩
  obtain ⟨hl, w0, ds, m, Φ, Ψ, h0, r, vl, xl, c⟩ := h
  have hd : ds.length = ps.length := r.length.symm.trans hl
  refine ⟨w0, _, m, fun _ => Ψ, _, ⟨h0, slots_start r, fun ρ σ w1 l1 _ C fs m' w' H' d xs l a b c q => xl C fs m' w' H' d xs (l1.trans l) a b c q⟩, ?_, hC ds m Φ Ψ hd c⟩
  exact ⟨fun ρ m' w' H' σ l h' _ q => vl .non m' w' H' _ l h' rfl q, vl, fun _ _ _ _ _ _ _ _ q => q.elim, fun _ _ _ _ _ _ _ _ q => q.elim⟩
end
end Dl

namespace Dl
open PySem L2 PyProof.Rows

abbrev oMul : DO := oI MulC fun i j => i * j
abbrev oDiv : DO := oI DivC fun i j => i / j
abbrev oMod : DO := oI ModC fun i j => i % j
abbrev oLt : DO := oB0 fun i j => decide (i < j)
abbrev oGt : DO := oB0 fun i j => decide (j < i)
theorem opl_mul {K : PySem.W.Frag} : OpL K (rI MulC fun i j => .int (i * j)) oMul := opl_I fun _ _ h => h
theorem opl_div {K : PySem.W.Frag} : OpL K (rI CDivW fun i j => .int (i / j)) oDiv := opl_I fun _ _ h => divC_ok h
theorem opl_mod {K : PySem.W.Frag} : OpL K (rI (fun _ j => 0 < j) fun i j => .int (i % j)) oMod := opl_I fun _ _ h => h
theorem opl_lt {K : PySem.W.Frag} : OpL K (rI0 fun i j => .bl (decide (i < j))) oLt := opl_B0
theorem opl_gt {K : PySem.W.Frag} : OpL K (rI0 fun i j => .bl (decide (j < i))) oGt := opl_B0
def oShl : DO := oI CPow fun i j => i * 2 ^ j.toNat
def oNeg : DO1 := fun x m Φ => match x with
  | .int i => Φ (.int (-i)) m
  | _ => False
/-- every parameter is given -/
abbrev BA (fd : FuncData) (ps : List Str) : Prop := ∀ us : List Value, us.length = ps.length → bindArgs fd ⟨us, []⟩ = pure (ps.zip us)
/-- a def stands and keeps its worth -/
def Ok (P : Program) (w : World) (K : PySem.W.Frag) (mg : Str → Option Value) (base : Heap) (x : Str) (lv : Nat) (ps : List Str) (C : DC) : Prop :=
  ∃ f fd, mg x = some (.ref f) ∧ PySem.W.keepIn K (.ref f) = true ∧ BA fd ps ∧ FnOk P w K mg base (L2.CX P w) lv f fd ps (spOf K ps.length C)
/-- a def as the top has written it -/
def DefT (K : PySem.W.Frag) (mg : Str → Option Value) (x : Str) (st : Stmt) (ps : List Str) : Prop := ∃ f fd, Fun K x x st f fd ∧ mg x = some (.ref f) ∧ BA fd ps
theorem Ok.mono {P : Program} {w : World} {K : PySem.W.Frag} {mg : Str → Option Value} {base : Heap} {x : Str} {lv lv' : Nat} {ps : List Str} {C : DC} (h : Ok P w K mg base x lv ps C) (l : lv ≤ lv') : Ok P w K mg base x lv' ps C := by
  obtain ⟨f, fd, a, b, c, d⟩ := h
  exact ⟨f, fd, a, b, c, d.mono l⟩
/-- a weaker worth -/
theorem Ok.imp {P : Program} {w : World} {K : PySem.W.Frag} {mg : Str → Option Value} {base : Heap} {x : Str} {lv : Nat} {ps : List Str} {C C' : DC} (h : Ok P w K mg base x lv ps C) (i : ∀ ds m Φ Ψ, C' ds m Φ Ψ → C ds m Φ Ψ) : Ok P w K mg base x lv ps C' := by
  obtain ⟨f, fd, a, b, c, d⟩ := h
  exact ⟨f, fd, a, b, c, d.imp fun vs H Q E ⟨z, w, ds, m, Φ, Ψ, q1, q2, q3, q4, q5⟩ => ⟨z, w, ds, m, Φ, Ψ, q1, q2, q3, q4, i _ _ _ _ q5⟩⟩
section
variable {X : Cx} {E : WX} {pos p : Pos} {e : Expr} {es : List Expr} {Ws : DA} {x : Str} {k : Nat} {ps : List Str} {C : DC}
theorem je_callO (G : Ok X.prog X.w X.K X.mg X.base x k ps C) (tk : Takes X E) (hr : Room k X.A) (hg : Gl X x) (ha : JA X E (e :: es) Ws) (n : Nat) (hn : ps.length = n := by rfl) (hdb : (x == ("__debug__" : Str)) = false := by decide)
    (he : starEach (e :: es) X.env = (false, eval e X.env) :: starEach es X.env := by rfl) (hpl : (backTo pos (starEach es X.env)).any (·.1) = false := by rfl) : JE X E (.Call (.Name x p) (e :: es) [] pos) (dCall n C Ws) := by
  subst hn
  obtain ⟨f, fd, hm, kp, b, F⟩ := G
  exact je_call tk F hr hg hm kp (Binds.all b) ha hdb he hpl
end
/-- the law's own worth -/
def CLaw (C : List Int → MM → (D → MM → Prop) → Prop) : DC := fun ds m Φ _ => ∃ ns, ds = [.rol (ns.map D.int)] ∧ C ns m Φ
def ClawT : List Int → MM → (D → MM → Prop) → Prop := fun ns m Φ => ns.length ≤ 63 ∧ m = ⟨[], 0⟩ ∧ ∀ m', Φ (.bl true) m'
theorem repAll_ints {K : PySem.W.Frag} {w : Wd} : ∀ (ns : List Int), RepAll K w (ns.map D.int) (ns.map V.int)
  | [] => rfl
  | n :: ns => ⟨.int n, _, rfl, rfl, repAll_ints ns⟩
theorem law_sp {K : PySem.W.Frag} {H : Hp} {a : Addr} {ns : List Int} (hl : ns.length ≤ 63) (hS : SqL K H a (ns.map V.int)) : spOf K 1 (CLaw ClawT) [.ref a] H (fun v _ => v = .bl true) fun _ _ _ => False := by
  refine ⟨rfl, ⟨H, [], none⟩, [.rol (ns.map D.int)], ⟨[], 0⟩, fun d _ => d = .bl true, fun _ _ _ => False, ?_, ?_, ?_, ?_, ns, rfl, hl, rfl, fun _ => rfl⟩
  · exact ⟨fun _ _ h => h, rfl, List.nodup_nil, fun k a o e => by simp at e, fun k a o e => by simp at e, (fun _ S e => nomatch e), ⟨fun _ => rfl, fun e => nomatch e⟩⟩
  · exact ⟨_, [], rfl, ⟨a, _, rfl, hS, repAll_ints ns⟩, rfl⟩
  · intro d m' w' H' v l h r q
    subst q
    exact r
  · intro _ _ _ _ _ _ _ _ _ _ _ q
    exact q.elim
theorem cx_false {P : Program} {w : World} {H : Hp} {s : Shared} {e : Value} {s' : Shared} (h : L2.CX P w [] H s (fun _ _ _ => False) e s') : False := by
  obtain ⟨_, _, _, _, _, _, _, _, _, _, _, _, z⟩ := h
  exact z.elim

/-! ### reasoning -/
/-- over the items of a list of anything -/
theorem forW_map {α : Type} {inj : α → D} {g : DG} {body : DS} {N : DN} {Ψ : XS} (I : List α → Env → MM → Prop) (hs : ∀ d r (k : Env → MM → Prop), (∀ ρ m, I r ρ m → k ρ m) → ∀ ρ m, I (d :: r) ρ m → g (inj d) ρ m (fun ρ1 m1 => body { N with nx := k, ct := k, bk := N.nx } Ψ ρ1 m1))
    (hd : ∀ ρ m, I [] ρ m → N.nx ρ m) : ∀ (ds : List α) (ρ : Env) (m : MM), I ds ρ m → forW g body N Ψ (ds.map inj) ρ m
  | [], ρ, m, h => hd ρ m h
  | d :: r, ρ, m, h => hs d r _ (fun ρ m => forW_map I hs hd r ρ m) ρ m h
/-- over a range: I at the number of turns done -/
theorem forW_rng {lo : Int} {n : Nat} {g : DG} {body : DS} {N : DN} {Ψ : XS} (I : Nat → Env → MM → Prop) (hs : ∀ i (k : Env → MM → Prop), i < n → (∀ ρ m, I (i + 1) ρ m → k ρ m) → ∀ ρ m, I i ρ m → g (.int (lo + (i : Nat))) ρ m (fun ρ1 m1 => body { N with nx := k, ct := k, bk := N.nx } Ψ ρ1 m1))
    (hd : ∀ ρ m, I n ρ m → N.nx ρ m) {ρ : Env} {m : MM} (h : I 0 ρ m) : forW g body N Ψ (rngD lo n) ρ m := by
  have key : ∀ (k i : Nat), i + k = n → ∀ ρ m, I i ρ m → forW g body N Ψ ((List.range' i k).map fun (j : Nat) => D.int (lo + (j : Nat))) ρ m := by
    intro k
    induction k with
    | zero =>
      intro i e ρ m h
      have e : i = n := by omega
      subst e
      exact hd ρ m h
    | succ k ih =>
      intro i e ρ m h
      rw [List.range'_succ]
      exact hs i _ (by omega) (fun ρ m h => ih (i + 1) (by omega) ρ m h) ρ m h
  unfold rngD
  rw [List.range_eq_range']
  exact key n 0 (by omega) ρ m h
inductive All2 {α β : Type} (R : α → β → Prop) : List α → List β → Prop where
  | nil : All2 R [] []
  | cons {a b as bs} : R a b → All2 R as bs → All2 R (a :: as) (b :: bs)
theorem All2.length {α β : Type} {R : α → β → Prop} {as : List α} {bs : List β} (h : All2 R as bs) : as.length = bs.length := by
  induction h with
  | nil => rfl
  | cons _ _ ih => rw [List.length_cons, List.length_cons, ih]
theorem All2.fn {α β : Type} {f : α → β} : ∀ {as : List α} {bs : List β}, All2 (fun a b => b = f a) as bs → bs = as.map f
  | _, _, .nil => rfl
  | _, _, .cons e h => by rw [e, h.fn]; rfl
theorem rngD0 {n : Nat} : rngD 0 n = (List.range n).map fun i : Nat => D.int (i : Nat) := by
  unfold rngD
  simp only [Int.zero_add]
/-- over range(n) -/
theorem forW_nat {n : Nat} {g : DG} {body : DS} {N : DN} {Ψ : XS} (I : Nat → Env → MM → Prop) (hs : ∀ i (k : Env → MM → Prop), i < n → (∀ ρ m, I (i + 1) ρ m → k ρ m) → ∀ ρ m, I i ρ m → g (.int (i : Nat)) ρ m (fun ρ1 m1 => body { N with nx := k, ct := k, bk := N.nx } Ψ ρ1 m1))
    (hd : ∀ ρ m, I n ρ m → N.nx ρ m) {ρ : Env} {m : MM} (h : I 0 ρ m) : forW g body N Ψ ((List.range n).map fun i : Nat => D.int (i : Nat)) ρ m := by
  rw [← rngD0]
  exact forW_rng I (fun i k hi hk ρ m h => by rw [Int.zero_add]; exact hs i k hi hk ρ m h) hd h
theorem bt_len : bootBuiltins "len" = some (.builtin "len") := by decide +kernel
theorem bt_abs : bootBuiltins "abs" = some (.builtin "abs") := by decide +kernel
theorem bt_isinstance : bootBuiltins "isinstance" = some (.builtin "isinstance") := by decide +kernel
theorem bt_int : bootBuiltins "int" = some (.type "int") := by decide +kernel
theorem bt_bool : bootBuiltins "bool" = some (.type "bool") := by decide +kernel
theorem bt_list : bootBuiltins "list" = some (.type "list") := by decide +kernel
end Dl

namespace Dl
open PySem L2 PyProof.Rows

/-! ### further walks -/
section
variable {X : Cx} {E : WX} {a b c : Expr} {Ws : DA} {pos p tpos : Pos} {elts : List Expr} {kk : Nat}
def enumD : Nat → List D → List D
  | _, [] => []
  | i, d :: ds => .tup [.int (i : Nat), d] :: enumD (i + 1) ds
def diEnumerate (r : DA) : DI := fun ρ m Φ Ψ => r ρ m (fun ds m1 => match ds with
  | [d] => match asF d with
    | some xs => Φ (enumD 0 xs) m1
    | none => False
  | _ => False) Ψ
def zipD : List D → List D → List D
  | x :: xs, y :: ys => .tup [x, y] :: zipD xs ys
  | _, _ => []
def diZip (r : DA) : DI := fun ρ m Φ Ψ => r ρ m (fun ds m1 => match ds with
  | [d, e] => match asF d, asF e with
    | some xs, some ys => Φ (zipD xs ys) m1
    | _, _ => False
  | _ => False) Ψ
def diReversed (r : DA) : DI := fun ρ m Φ Ψ => r ρ m (fun ds m1 => match ds with
  | [d] => match asF d with
    | some xs => Φ xs.reverse m1
    | none => False
  | _ => False) Ψ
end

/-! ### a comprehension whose list changes later -/
def lcWM (g : DG) (tt : DT) (te : DE) (ρ : Env) (Φ : D → MM → Prop) : List D → List D → MM → Prop
  | [], acc, m => Φ (.hnd m.M.length) (m.push (.lst acc))
  | d :: ds, acc, m => g d ρ (m.push (.lst acc)) fun ρ1 m1 => m1 = m.push (.lst acc) ∧ tt ρ1 (m.push (.lst acc)) (fun b m2 => m2 = m.push (.lst acc) ∧ if b = true then
      te ρ1 (m.push (.lst acc)) (fun y m3 => m3 = m.push (.lst acc) ∧ acc.length < LIM ∧ lcWM g tt te ρ Φ ds (acc ++ [y]) m) XF
    else lcWM g tt te ρ Φ ds acc m) XF
def dLcM (it : DI) (g : DG) (tt : DT) (te : DE) (vs : List Nat) : DE := fun ρ m Φ Ψ => it ρ m (fun ds m1 => lcWM g tt te (wipeD ρ vs) Φ ds [] m1) Ψ
theorem lcM_ok {K : PySem.W.Frag} {E : WX} {wi : DI} {g : DG} {tt : DT} {te : DE} {vs : List Nat} {σ : L2.St} {H : Hp} {Q : VK} (h : lift K E (dLcM wi g tt te vs) σ H Q) : tLc (liftI K E wi) (liftG K vs g) (liftT K EF tt) (lift K EF te) vs σ H Q := by
  obtain ⟨w, ρ, m, Ψ, Φ, a, vl, h⟩ := h
  refine ⟨w, ρ, m, Ψ, _, a, fun ds m1 w1 H1 J l1 h1 wk q1 => ?_, h⟩
  intro D hD
  refine ⟨fun i k H => k = ds.length - i ∧ i ≤ ds.length ∧ ∃ w' acc, w1.le w' ∧ HRep K w' (m1.push (.lst acc)) H ∧ w'.th[m1.M.length]? = some D ∧ lcWM g tt te (wipeD ρ vs) Φ (ds.drop i) acc m1, ⟨ds.length, by omega, Nat.zero_le _, w1.add D, [], Wd.le_add, h1.add hD ⟨[], upd_same, rfl⟩, ?_, q1⟩, ?_⟩
  · show (w1.th ++ [D])[m1.M.length]? = some D
    rw [← h1.len, List.getElem?_append_right (Nat.le_refl _)]; simp
  rintro i k H2 ⟨rfl, hi, w2, acc, l2, h2, hD2, q2⟩
  by_cases hlt : i < ds.length
  · have ed : ds[i]? = some ds[i] := List.getElem?_eq_getElem hlt
    have dr : ds.drop i = ds[i] :: ds.drop (i + 1) := List.drop_eq_getElem_cons hlt
    rw [dr] at q2
    refine .inr ⟨wk.go w2 _ H2 i _ l2 h2 ed, fun H' => ∃ w' acc, w1.le w' ∧ HRep K w' (m1.push (.lst acc)) H' ∧ w'.th[m1.M.length]? = some D ∧ lcWM g tt te (wipeD ρ vs) Φ (ds.drop (i + 1)) acc m1, fun H' z => ⟨ds.length - (i + 1), by omega, rfl, hlt, z⟩, fun x H3 y => ?_⟩
    obtain ⟨w3, l3, h3, r3⟩ := wk.yld w2 _ H2 i _ x H3 l2 h2 ed y
    have s3 : Slots K w3 (L2.wipe σ vs) (wipeD ρ vs) := ((a.s.mono l1).mono (l2.trans l3)).wipes vs
    refine ⟨w3, wipeD ρ vs, _, ds[i], _, h3, s3, r3, fun ρ' m' w' H' σ' l h' s' e q => ⟨e.trans wipe_wipe, ?_⟩, q2⟩
    obtain ⟨rfl, q⟩ := q
    refine ⟨w', ρ', _, XF, _, ⟨h', s', xlift_F⟩, fun b m4 w4 H4 l4 h4 q4 => ?_, q⟩
    obtain ⟨rfl, q4⟩ := q4
    have l24 : w2.le w4 := l3.trans (l.trans l4)
    cases b with
    | true =>
      rw [if_pos rfl] at q4
      show (if true = true then _ else _)
      rw [if_pos rfl]
      refine ⟨w4, ρ', _, XF, _, ⟨h4, s'.mono l4, xlift_F⟩, fun y m5 w5 H5 v l5 h5 r5 q5 => ?_, q4⟩
      obtain ⟨rfl, hz, q5⟩ := q5
      have hD5 : w5.th[m1.M.length]? = some D := l5.th _ _ (l24.th _ _ hD2)
      have hM : (m1.push (.lst acc)).M[m1.M.length]? = some (.lst acc) := by
        show (m1.M ++ [MO.lst acc])[m1.M.length]? = _
        rw [List.getElem?_append_right (Nat.le_refl _)]; simp
      obtain ⟨xs, hx, r⟩ := h5.obj _ D _ hD5 hM
      refine ⟨xs, hx, lim_lt (by rw [r.length]; exact hz), w5, acc ++ [y], l2.trans (l24.trans l5), ?_, hD5, q5⟩
      have z := h5.wr (ho := .lst (xs ++ [v])) (o' := .lst (acc ++ [y])) hD5 hM (fun z => by cases z) ⟨_, upd_same, r.append ⟨v, [], rfl, r5, rfl⟩⟩
      have e : (m1.push (.lst acc)).M.set m1.M.length (.lst (acc ++ [y])) = (m1.push (.lst (acc ++ [y]))).M := by
        show (m1.M ++ [MO.lst acc]).set m1.M.length (.lst (acc ++ [y])) = m1.M ++ [MO.lst (acc ++ [y])]
        rw [List.set_append_right _ _ (Nat.le_refl _)]; simp
      rw [e] at z
      exact z
    | false =>
      rw [if_neg Bool.false_ne_true] at q4
      show (if false = true then _ else _)
      rw [if_neg Bool.false_ne_true]
      exact ⟨w4, acc, l2.trans l24, h4, l24.th _ _ hD2, q4⟩
  · have e : i = ds.length := by omega
    subst e
    rw [List.drop_length] at q2
    exact .inl ⟨wk.stop w2 _ H2 l2 h2, vl (.hnd m1.M.length) _ w2 H2 _ (l1.trans l2) h2 ⟨D, rfl, hD2⟩ q2⟩
section
variable {X : Cx} {E : WX}
theorem je_lcM {elt tg iter : Expr} {ifs : List Expr} {scope : Scope} {own : List (Str × Nat)} {pos : Pos} {wi : DI} {g : DG} {tt : DT} {te : DE} (hc : X.calm = true) (hN : X.N.Nodup) (hi : JI X E tg iter wi) (ok : BlkOk X.N X.env.scope scope own)
    (hg : ∀ (s : Shared) (H : Hp) (C : Addr) (cl : List (Str × Addr)) (fp : List Addr), PG (X.blk s H scope (compEnvC scope cl C X.env) fp) tg (liftG X.K (own.map (·.2)) g))
    (ht : ∀ (s : Shared) (H : Hp) (C : Addr) (cl : List (Str × Addr)) (fp : List Addr), PTs (X.blk s H scope (compEnvC scope cl C X.env) fp) ifs (liftT X.K EF tt))
    (he : ∀ (s : Shared) (H : Hp) (C : Addr) (cl : List (Str × Addr)) (fp : List Addr), JE (X.blk s H scope (compEnvC scope cl C X.env) fp) EF elt te) (hs : ∀ x, foldedSetIterable iter X.env x = pure x := by intro _; rfl) :
    JE X E (.ListComp elt [⟨tg, iter, ifs, 0⟩] scope pos) (dLcM wi g tt te (own.map (·.2))) := PE.imp (pe_lc hc hN hi ok hg ht he hs) fun _ _ _ h => lcM_ok h
end

/-! ### the drawing state, opened and closed -/
section
variable {K : PySem.W.Frag} {w : Wd} {m : MM} {H : Hp} {p A c : Addr}
theorem HRep.adopt {o : MO} (h : HRep K w m H) (h0 : m.s ≠ 1) (hp : p ∉ w.th) (hF : w.F p = none) (ob : ORep K (w.add p) H p o) : HRep K (w.add p) (m.push o) H where
  ext := h.ext
  len := by show (w.th ++ [p]).length = (m.M ++ [o]).length; rw [List.length_append, List.length_append, h.len]; rfl
  nd := by
    show (w.th ++ [p]).Nodup
    rw [List.nodup_append]
    refine ⟨h.nd, by simp, fun a ha b hb e => ?_⟩
    have e2 : b = p := by simpa using hb
    subst e2; subst e
    exact hp ha
  obj := fun k a o' q1 q2 => by
    have q1 : (w.th ++ [p])[k]? = some a := q1
    have q2 : (m.M ++ [o])[k]? = some o' := q2
    rcases Nat.lt_or_ge k w.th.length with hk | hk
    · rw [List.getElem?_append_left hk] at q1
      rw [List.getElem?_append_left (by rw [← h.len]; exact hk)] at q2
      exact (h.obj k a o' q1 q2).mono Wd.le_add rfl
    · rw [List.getElem?_append_right hk] at q1
      rw [List.getElem?_append_right (by rw [← h.len]; exact hk)] at q2
      have hk2 : k = w.th.length := by
        have z := (List.getElem?_eq_some_iff.mp q1).1
        simp at z; omega
      subst hk2
      rw [Nat.sub_self] at q1
      rw [h.len, Nat.sub_self] at q2
      simp at q1 q2
      subst q1; subst q2
      exact ob
  thF := fun k a o' q1 q2 q3 => by
    have q1 : (w.th ++ [p])[k]? = some a := q1
    have q2 : (m.M ++ [o])[k]? = some o' := q2
    show w.F a = none
    rcases Nat.lt_or_ge k w.th.length with hk | hk
    · rw [List.getElem?_append_left hk] at q1
      rw [List.getElem?_append_left (by rw [← h.len]; exact hk)] at q2
      exact h.thF k a o' q1 q2 q3
    · rw [List.getElem?_append_right hk] at q1
      have z : a ∈ [p] := List.mem_of_getElem? q1
      have e : a = p := by simpa using z
      rw [e]; exact hF
  ls := fun q => absurd q h0
  flag := h.flag
theorem HRep.turn {s : Nat} (h : HRep K w m H) (h1 : s ≠ 1) (h0 : s ≠ 0) : HRep K w ⟨m.M, s⟩ H := ⟨h.ext, h.len, h.nd, h.obj, h.thF, fun q => absurd q h1, ⟨fun q => absurd q h0, fun q => absurd q h1⟩⟩
theorem repAll_intsD {K : PySem.W.Frag} {w : Wd} : ∀ (ns : List Int), RepAll K w (ns.map D.int) (ns.map V.int)
  | [] => rfl
  | n :: ns => ⟨.int n, _, rfl, rfl, repAll_intsD ns⟩
/-- the lists of the drawing state become our own -/
theorem HRep.opened (h : HRep K w m H) (h1 : m.s = 1) (hS : w.S = some ⟨A, c, 0⟩) : ∃ (cells : List Int) (seed : Int),
    HRep K ((w.add c).add A) ⟨m.M ++ [.lst (cells.map D.int)] ++ [.lst [.hnd m.M.length, .int seed]], 2⟩ H ∧ w.le ((w.add c).add A) := by
  obtain ⟨hok, h2⟩ := h.ls h1 _ hS
  obtain ⟨cells, seed, hA, hc⟩ : ∃ (cells : List Int) (seed : Int), H A = some (.lst [.ref c, .int seed]) ∧ H c = some (.lst (cells.map V.int)) := hok
  have fA := h2 A (by show A ∈ [A, c]; simp)
  have fc := h2 c (by show c ∈ [A, c]; simp)
  have ne : A ≠ c := fun z => by
    rw [← z, hA] at hc
    cases cells with
    | nil => cases hc
    | cons x xs => cases hc
  have g1 := (h.turn (s := 2) (by decide) (by decide)).adopt (o := .lst (cells.map D.int)) (by show (2 : Nat) ≠ 1; decide) fc.2.1 fc.1 ⟨_, hc, repAll_intsD cells⟩
  have g2 := g1.adopt (p := A) (o := .lst [.hnd m.M.length, .int seed]) (by show (2 : Nat) ≠ 1; decide) (by show A ∉ w.th ++ [c]; simp only [List.mem_append, List.mem_singleton, not_or]; exact ⟨fA.2.1, ne⟩) fA.1
    ⟨_, hA, .ref c, _, rfl, ⟨c, rfl, Wd.le_add.th _ _ (by show (w.th ++ [c])[m.M.length]? = some c; rw [← h.len, List.getElem?_append_right (Nat.le_refl _)]; simp)⟩, .int seed, [], rfl, rfl, rfl⟩
  exact ⟨cells, seed, g2, Wd.le_add.trans Wd.le_add⟩
/-- .. and are given back -/
theorem HRep.closed {M0 : List MO} {S : LS} (h : HRep K w m H) (hM : m.M.take M0.length = M0) (hS : w.S = some S) (hc : ∀ o ∈ M0, clO M0.length o = true) (hA : ∀ a ∈ S.fp, ∃ j, M0.length ≤ j ∧ w.th[j]? = some a ∧ ∃ o, m.M[j]? = some o ∧ o ≠ .dead) (ok : S.ok H) :
    HRep K (w.cut M0.length) ⟨M0, 1⟩ H := by
  have z := h.cut (n := M0.length) (by rw [hM]; exact hc)
  have e : (m.cut M0.length).M = M0 := hM
  exact {
    ext := z.ext
    len := by have q := z.len; rw [e] at q; exact q
    nd := z.nd
    obj := fun k a o q1 q2 => z.obj k a o q1 (by rw [e]; exact q2)
    thF := fun k a o q1 q2 q3 => z.thF k a o q1 (by rw [e]; exact q2) q3
    ls := fun _ S' q => by
      have q : w.S = some S' := q
      rw [hS] at q; cases q
      refine ⟨ok, fun a ha => ?_⟩
      obtain ⟨j, hj, e1, o, e2, e3⟩ := hA a ha
      refine ⟨h.thF j a o e1 e2 e3, fun hm => ?_, h.thH (List.mem_of_getElem? e1)⟩
      have hm : a ∈ w.th.take M0.length := hm
      obtain ⟨i, hi, ei⟩ := List.mem_iff_getElem.mp hm
      have hi2 := hi
      rw [List.length_take] at hi2
      have e4 : w.th[i]? = some a := by
        have q : (w.th.take M0.length)[i]? = some a := by rw [List.getElem?_eq_getElem hi, ei]
        rw [List.getElem?_take_of_lt (by omega)] at q
        exact q
      obtain ⟨k1, k2⟩ := List.getElem?_eq_some_iff.mp e1
      obtain ⟨j1, j2⟩ := List.getElem?_eq_some_iff.mp e4
      have ij : j = i := (List.getElem_inj h.nd).mp (k2.trans j2.symm)
      omega
    flag := ⟨fun q => (by cases q), fun _ => by show w.S.isSome = true; rw [hS]; rfl⟩ }
end
/-! the two defs of most laws: the state is made; a number is drawn -/
def C_stateO : DC := fun ds m Φ _ => (∃ ns : List Int, ds = [.rol (ns.map D.int)] ∧ ns.length ≤ 1000) ∧ ∀ (cells : List Int) (seed : Int), Φ (.hnd (m.M.length + 1)) ⟨m.M ++ [.lst (cells.map D.int)] ++ [.lst [.hnd m.M.length, .int seed]], m.s⟩
def C_state : DC := fun ds m Φ _ => (∃ ns : List Int, ds = [.rol (ns.map D.int)] ∧ ns.length ≤ 1000) ∧ m.s = 0 ∧ Φ (.st 0) ⟨m.M, 1⟩
def C_drawO : DC := fun ds m Φ _ => ∃ (k j : Nat) (cells : List Int) (seed n : Int), ds = [.hnd k, .int n] ∧ 0 < n ∧ n < 2 ^ 64 ∧ m.M[k]? = some (.lst [.hnd j, .int seed]) ∧ m.M[j]? = some (.lst (cells.map D.int)) ∧ j ≠ k ∧
  ∀ (r : Int) (cells' : List Int) (seed' : Int), 0 ≤ r → r < n → Φ (.int r) ⟨(m.M.set j (.lst (cells'.map D.int))).set k (.lst [.hnd j, .int seed']), m.s⟩
def C_draw : DC := fun ds m Φ _ => ∃ n : Int, ds = [.st 0, .int n] ∧ m.s = 1 ∧ 0 < n ∧ n < 2 ^ 64 ∧ ∀ r : Int, 0 ≤ r → r < n → Φ (.int r) m
section
variable {P : Program} {w : World} {K : PySem.W.Frag} {mg : Str → Option Value} {base : Heap} {x : Str} {lv : Nat} {ps : List Str}
theorem Ok.impV {C C' : DC} (h : Ok P w K mg base x lv ps C) (i : ∀ vs H Q E, spOf K ps.length C' vs H Q E → spOf K ps.length C vs H Q E) : Ok P w K mg base x lv ps C' := by
  obtain ⟨f, fd, a, b, c, d⟩ := h
  exact ⟨f, fd, a, b, c, d.imp i⟩
theorem state_close (h : Ok P w K mg base x lv ps C_stateO) : Ok P w K mg base x lv ps C_state := h.impV fun vs H Q E ⟨z, w0, ds, m, Φ, Ψ, h0, r, vl, xl, hds, hs, q⟩ => by
  refine ⟨z, w0, ds, m, fun d m' => ∃ (cells : List Int) (seed : Int), d = .hnd (m.M.length + 1) ∧ m' = ⟨m.M ++ [.lst (cells.map D.int)] ++ [.lst [.hnd m.M.length, .int seed]], m.s⟩, Ψ, h0, r, ?_, xl, hds, fun cells seed => ⟨cells, seed, rfl, rfl⟩⟩
  rintro d m' w' H' v l h' rd ⟨cells, seed, rfl, rfl⟩
  obtain ⟨A, rfl, eA⟩ := rd
  have hS : w'.S = none := h'.flag.1 hs
  have gA : (m.M ++ [MO.lst (cells.map D.int)] ++ [MO.lst [.hnd m.M.length, .int seed]])[m.M.length + 1]? = some (.lst [.hnd m.M.length, .int seed]) := by
    rw [List.append_assoc, List.getElem?_append_right (by omega)]; simp
  have gc : (m.M ++ [MO.lst (cells.map D.int)] ++ [MO.lst [.hnd m.M.length, .int seed]])[m.M.length]? = some (.lst (cells.map D.int)) := by
    rw [List.append_assoc, List.getElem?_append_right (Nat.le_refl _)]; simp
  obtain ⟨xs, hA, v1, r1, rfl, ⟨c, rfl, ec⟩, v2, r2, rfl, e2, e3⟩ := h'.obj _ A _ eA gA
  have e2 : v2 = .int seed := e2
  have e3 : r2 = [] := e3
  subst e2; subst e3
  obtain ⟨ys, hc, ry⟩ := h'.obj _ c _ ec gc
  have ey := ints_ok (ints_map cells) ry
  subst ey
  -- the world with the state
  have lS : w'.le ⟨w'.F, w'.th, some ⟨A, c, 0⟩⟩ := ⟨fun _ _ h => h, fun _ _ h => h, fun S e => by rw [hS] at e; cases e⟩
  have h2 : HRep K ⟨w'.F, w'.th, some ⟨A, c, 0⟩⟩ ⟨m.M ++ [.lst (cells.map D.int)] ++ [.lst [.hnd m.M.length, .int seed]], 2⟩ H' :=
    ⟨h'.ext, h'.len, h'.nd, fun k a o q1 q2 => (h'.obj k a o q1 q2).mono lS rfl, h'.thF, fun q => (by cases q), ⟨fun q => (by cases q), fun q => (by cases q)⟩⟩
  have h3 := h2.closed (M0 := m.M) (S := ⟨A, c, 0⟩) (by show (m.M ++ _ ++ _).take _ = _; rw [List.append_assoc, List.take_left' rfl]) rfl h0.cls (fun a ha => by
    have ha : a ∈ [A, c] := ha
    simp only [List.mem_cons, List.not_mem_nil, or_false] at ha
    rcases ha with rfl | rfl
    · exact ⟨_, by omega, eA, _, gA, fun z => by cases z⟩
    · exact ⟨_, Nat.le_refl _, ec, _, gc, fun z => by cases z⟩) ⟨cells, seed, hA, hc⟩
  exact vl (.st 0) ⟨m.M, 1⟩ _ H' _ (Wd.le_cut (l.trans lS) (Nat.le_of_eq h0.len)) h3 ⟨⟨A, c, 0⟩, rfl, rfl, rfl⟩ q
theorem draw_close (h : Ok P w K mg base x lv ps C_drawO) : Ok P w K mg base x lv ps C_draw := h.impV fun vs H Q E ⟨z, w0, ds, m, Φ, Ψ, h0, r, vl, xl, n, hds, hs, hn, hn2, q⟩ => by
  subst hds
  obtain ⟨v1, v2, rfl, ⟨⟨A, c, k⟩, hS, hk, rfl⟩, rfl⟩ := rep2 r
  have hk : k = 0 := hk
  subst hk
  obtain ⟨cells, seed, h1, l1⟩ := h0.opened hs hS
  have e1 : ((w0.add c).add A).th[m.M.length + 1]? = some A := by
    show (w0.th ++ [c] ++ [A])[m.M.length + 1]? = some A
    rw [← h0.len, List.append_assoc, List.getElem?_append_right (by omega)]; simp
  have e2 : ((w0.add c).add A).th[m.M.length]? = some c := by
    show (w0.th ++ [c] ++ [A])[m.M.length]? = some c
    rw [← h0.len, List.append_assoc, List.getElem?_append_right (Nat.le_refl _)]; simp
  have gA : (m.M ++ [MO.lst (cells.map D.int)] ++ [MO.lst [.hnd m.M.length, .int seed]])[m.M.length + 1]? = some (.lst [.hnd m.M.length, .int seed]) := by
    rw [List.append_assoc, List.getElem?_append_right (by omega)]; simp
  have gc : (m.M ++ [MO.lst (cells.map D.int)] ++ [MO.lst [.hnd m.M.length, .int seed]])[m.M.length]? = some (.lst (cells.map D.int)) := by
    rw [List.append_assoc, List.getElem?_append_right (Nat.le_refl _)]; simp
  refine ⟨z, (w0.add c).add A, [.hnd (m.M.length + 1), .int n], ⟨m.M ++ [.lst (cells.map D.int)] ++ [.lst [.hnd m.M.length, .int seed]], 2⟩, fun d m' => ∃ (r : Int) (cells' : List Int) (seed' : Int), d = .int r ∧ 0 ≤ r ∧ r < n ∧
    m' = ⟨m.M ++ [.lst (cells'.map D.int)] ++ [.lst [.hnd m.M.length, .int seed']], 2⟩, XF, h1, ⟨.ref A, _, rfl, ⟨A, rfl, e1⟩, .int n, [], rfl, rfl, rfl⟩, ?_, fun _ _ _ _ _ _ _ _ _ _ _ q => q.elim, m.M.length + 1, m.M.length, cells, seed, n, rfl, hn, hn2, gA, gc, by omega, fun r cells' seed' hr0 hr1 => ⟨r, cells', seed', rfl, hr0, hr1, ?_⟩⟩
  · rintro d m' w' H' v l h' rd ⟨r, cells', seed', rfl, hr0, hr1, rfl⟩
    have rd : v = .int r := rd
    subst rd
    have gA' : (m.M ++ [MO.lst (cells'.map D.int)] ++ [MO.lst [.hnd m.M.length, .int seed']])[m.M.length + 1]? = some (.lst [.hnd m.M.length, .int seed']) := by
      rw [List.append_assoc, List.getElem?_append_right (by omega)]; simp
    have gc' : (m.M ++ [MO.lst (cells'.map D.int)] ++ [MO.lst [.hnd m.M.length, .int seed']])[m.M.length]? = some (.lst (cells'.map D.int)) := by
      rw [List.append_assoc, List.getElem?_append_right (Nat.le_refl _)]; simp
    have f1 := l.th _ _ e1
    have f2 := l.th _ _ e2
    obtain ⟨xs, hA, v1, r1, rfl, ⟨c', rfl, ec⟩, v2, r2, rfl, e4, e3⟩ := h'.obj _ A _ f1 gA'
    have e4 : v2 = .int seed' := e4
    have e3 : r2 = [] := e3
    subst e4; subst e3
    rw [f2] at ec
    cases ec
    obtain ⟨ys, hc, ry⟩ := h'.obj _ c _ f2 gc'
    have ey := ints_ok (ints_map cells') ry
    subst ey
    have lall := l1.trans l
    have hS' : w'.S = some ⟨A, c, 0⟩ := lall.S _ hS
    have h3 := h'.closed (M0 := m.M) (S := ⟨A, c, 0⟩) (by show (m.M ++ _ ++ _).take _ = _; rw [List.append_assoc, List.take_left' rfl]) hS' h0.cls (fun a ha => by
      have ha : a ∈ [A, c] := ha
      simp only [List.mem_cons, List.not_mem_nil, or_false] at ha
      rcases ha with rfl | rfl
      · exact ⟨_, by omega, f1, _, gA', fun z => by cases z⟩
      · exact ⟨_, Nat.le_refl _, f2, _, gc', fun z => by cases z⟩) ⟨cells', seed', hA, hc⟩
    have em : (⟨m.M, 1⟩ : MM) = m := by rw [← hs]
    rw [em] at h3
    exact vl (.int r) m _ H' _ (Wd.le_cut lall (Nat.le_of_eq h0.len)) h3 rfl (q r hr0 hr1)
  · show (⟨_, 2⟩ : MM) = ⟨_, 2⟩
    congr 1
    rw [List.append_assoc, List.set_append_right _ _ (Nat.le_refl _), List.set_append_right _ _ (by omega), List.append_assoc]
    simp
end
end Dl

namespace Dl
open PySem L2
theorem moL_lst {ds : List D} : moL (some (.lst ds)) = some ds := rfl
theorem atI_cons0 {α : Type} {a : α} {l : List α} : atI (a :: l) 0 = some a := atI_nat (j := 0) rfl
theorem seqIx0 {n : Nat} (h : 0 < n) : seqIndex? 0 n = some 0 := PySem.StrLaws.seqIndex_nonneg (by decide) (by omega)
theorem ixN0 {n : Nat} (h : 0 < n) : ixN n 0 = some 0 := by
  unfold ixN
  rw [if_pos (by decide), if_pos (by omega)]; rfl
local macro_rules | `(tactic| walk_at "dl") => `(tactic| try simp only [dSeq, dSet, dOp, dUn, dVar, dC, dCB, dCons, dNil, dRet, dRetN, dIf, dB, dAnd, dOr, dNot, dDrop, dNext, dMethL, dSetIx, dAndV, dOrV, dNotV, dBlV, dIfE, dLst, dTup, dLstM, dCall, dChain, dAsg, dgName, dgTup, bindD, asT, dFor, diList, diRng1, diRng2, diEnumerate, diZip, diReversed, dLc, dLcM, dYes, wipeD, dAug, dSl, dpN, dpS,
  oI, oI0, oB0, oAdd, oNeg, oEq, oNe, oIx, oIsN, oNotN, isNon, oShl, oApp, oPop, oPopAt, cLen, cInt, cAbs, cSum, cMax2, cMin2, cList, cIsi, tyD, asL, asF, asK, moL_lst, ModC, DivC,
  List.getElem?_cons_zero, List.getElem?_cons_succ, List.set_cons_zero, List.set_cons_succ, List.getElem?_nil, List.length_cons, List.length_nil, List.length_map, Option.map_some, Option.bind_some, Option.isSome_some, if_true, true_and, and_true, MM.push])
theorem lcWM_fn {α β : Type} {inj : α → D} {out : β → D} {g : DG} {te : DE} {ρ : Env} {Φ : D → MM → Prop} (f : α → β) (m : MM) :
    ∀ (xs : List α) (acc : List D), (∀ x ∈ xs, ∀ (m' : MM) (Θ : D → MM → Prop), Θ (out (f x)) m' → g (inj x) ρ m' (fun ρ1 m1 => m1 = m' ∧ te ρ1 m' Θ XF)) → acc.length + xs.length ≤ LIM → Φ (.hnd m.M.length) (m.push (.lst (acc ++ (xs.map f).map out))) →
    lcWM g dYes te ρ Φ (xs.map inj) acc m
  | [], acc, _, _, h => by rw [List.map_nil, List.map_nil, List.append_nil] at h; exact h
  | x :: xs, acc, hg, hl, h => by
    rw [List.length_cons] at hl
    have z := hg x List.mem_cons_self (m.push (.lst acc)) (fun y m3 => m3 = m.push (.lst acc) ∧ acc.length < LIM ∧ lcWM g dYes te ρ Φ (xs.map inj) (acc ++ [y]) m) ⟨rfl, by omega, lcWM_fn f m xs (acc ++ [out (f x)]) (fun y hy => hg y (List.mem_cons_of_mem _ hy)) (by rw [List.length_append, List.length_singleton]; omega) (by
        rw [List.map_cons, List.map_cons] at h
        rw [List.append_assoc]
        exact h)⟩
    have key : (fun (ρ1 : Dl.Env) (m1 : MM) => m1 = m.push (.lst acc) ∧ te ρ1 (m.push (.lst acc)) (fun y m3 => m3 = m.push (.lst acc) ∧ acc.length < LIM ∧ lcWM g dYes te ρ Φ (xs.map inj) (acc ++ [y]) m) XF)
        = (fun ρ1 m1 => m1 = m.push (.lst acc) ∧ dYes ρ1 (m.push (.lst acc)) (fun b m2 => m2 = m.push (.lst acc) ∧ if b = true then te ρ1 (m.push (.lst acc)) (fun y m3 => m3 = m.push (.lst acc) ∧ acc.length < LIM ∧ lcWM g dYes te ρ Φ (xs.map inj) (acc ++ [y]) m) XF
          else lcWM g dYes te ρ Φ (xs.map inj) acc m) XF) := by
      funext ρ1 m1
      unfold dYes
      simp
    rw [key] at z
    exact z
def W_draw1 : DS := dSeq (dSet 2 (dOp oIx (dVar 0) (dC (.int 0)))) (dSeq (dWhile (dAnd (dB (dOp oGt (dCB cLen (dCons (dVar 2) (dNil))) (dC (.int 0)))) (dB (dOp oEq (dOp oIx (dVar 2) (dC (.int 0))) (dC (.int 0))))) (dDrop (dMethL oPopAt (dVar 2) (dCons (dC (.int 0)) (dNil))))) (dSeq (dIf (dB (dOp oGt (dCB cLen (dCons (dVar 2) (dNil))) (dC (.int 0)))) (dSeq (dSet 4 (dOp oIx (dVar 2) (dC (.int 0)))) (dSeq (dSetIx (dOp oDiv (dVar 4) (dVar 1)) (dVar 2) (dC (.int 0))) (dRet (dOp oMod (dCB cInt (dCons (dVar 4) (dNil))) (dVar 1))))) (dNext)) (dSeq (dSet 3 (dOp oMod (dCB cInt (dCons (dOp oAdd (dOp oMul (dOp oIx (dVar 0) (dC (.int 1))) (dC (.int 48271))) (dC (.int 12345))) (dNil))) (dC (.int 2147483647)))) (dSeq (dSetIx (dVar 3) (dVar 0) (dC (.int 1))) (dRet (dOp oMod (dCB cInt (dCons (dOp oDiv (dVar 3) (dC (.int 64))) (dNil))) (dVar 1)))))))
theorem rd_draw1 : ∀ ds m Φ Ψ, ds.length = 2 → C_drawO ds m Φ Ψ → W_draw1 { nx := fun _ m' => Φ .non m', rt := Φ } (fun _ => Ψ) (ds.map some ++ List.replicate (5 - ds.length) none) m := by
  intro ds m Φ Ψ _ h
  obtain ⟨k, j, cells, seed, n, rfl, hn, hn2, hk, hj, hjk, q⟩ := h
  change W_draw1 _ _ [some (D.hnd k), some (D.int n), none, none, none] m
  unfold W_draw1
  have jl : j < m.M.length := (List.getElem?_eq_some_iff.mp hj).1
  have kl : k < m.M.length := (List.getElem?_eq_some_iff.mp hk).1
  have setj : ∀ x, (m.M.set j x)[j]? = some x := fun x => List.getElem?_set_self jl
  have setk : ∀ x, (m.M.set j x)[k]? = some (.lst [.hnd j, .int seed]) := fun x => by rw [List.getElem?_set_ne hjk]; exact hk
  walk_at "dl"
  simp only [hk, moL_lst]
  refine ⟨_, rfl, ?_⟩
  refine ⟨fun c ρ m' => ∃ cs : List Int, c = cs.length ∧ ρ = [some (D.hnd k), some (D.int n), some (D.hnd j), none, none] ∧ m' = ⟨m.M.set j (.lst (cs.map D.int)), m.s⟩, ⟨_, cells, rfl, rfl, ?_⟩, ?_⟩
  · obtain ⟨M, s⟩ := m
    show (⟨M, s⟩ : MM) = ⟨M.set j _, s⟩
    congr 1
    apply List.ext_getElem?
    intro i
    by_cases hi : j = i
    · subst hi; rw [setj]; exact hj
    · rw [List.getElem?_set_ne hi]
  · rintro c ρ m' ⟨cs, rfl, rfl, rfl⟩
    walk_at "dl"
    simp only [setj, moL_lst]
    walk_at "dl"
    by_cases h0 : (0 : Int) < (cs.length : Nat)
    · obtain ⟨x, r, rfl⟩ : ∃ x r, cs = x :: r := by
        cases cs with
        | nil => simp at h0
        | cons x r => exact ⟨x, r, rfl⟩
      simp only [decide_eq_true h0, if_true, List.map_cons, atI_cons0]
      refine ⟨D.int x, rfl, rfl, rfl, ?_⟩
      rw [eqD_int]
      by_cases hx : x = 0
      · simp only [decide_eq_true hx, if_true]
        walk_at "dl"
        try simp only [setj, moL_lst, List.map_cons]
        refine ⟨⟨by decide, by decide⟩, 0, .int x, seqIx0 (by simp), rfl, r.length, by simp, r, rfl, ?_⟩
        rw [List.set_set]; rfl
      · simp only [decide_eq_false hx, Bool.false_eq_true, if_false, decide_eq_true h0, if_true]
        walk_at "dl"
        try simp only [setj, moL_lst, List.map_cons, atI_cons0]
        walk_at "dl"
        have h0' : (0 : Int) < ((r.length + 1 : Nat) : Int) := by omega
        try simp only [decide_eq_true h0', if_true]
        refine ⟨D.int x, rfl, ?_⟩
        walk_at "dl"
        try simp only [setj, moL_lst, List.map_cons, atI_cons0]
        refine ⟨⟨hn, hn2⟩, 0, ixN0 (by simp), hn, ?_⟩
        have z := q (x % n) ((x / n) :: r) seed (Int.emod_nonneg _ (by omega)) (Int.emod_lt_of_pos _ hn)
        rw [List.set_set]
        have e : (m.M.set j (.lst (((x / n) :: r).map D.int))).set k (.lst [.hnd j, .int seed]) = m.M.set j (.lst (((x / n) :: r).map D.int)) := by
          apply List.ext_getElem?
          intro i
          by_cases hi : k = i
          · subst hi; rw [List.getElem?_set_self (by rw [List.length_set]; exact kl), setk]
          · rw [List.getElem?_set_ne hi]
        rw [e] at z
        exact z
    · simp only [decide_eq_false h0, Bool.false_eq_true, if_false]
      walk_at "dl"
      try simp only [setj, setk, moL_lst]
      walk_at "dl"
      try simp only [decide_eq_false h0, Bool.false_eq_true, if_false]
      walk_at "dl"
      try simp only [setj, setk, moL_lst]
      refine ⟨_, rfl, ?_⟩
      walk_at "dl"
      try simp only [setj, setk, moL_lst]
      refine ⟨.inr (.inl ⟨by decide, by decide⟩), by decide, 1, rfl, ⟨by decide, by decide⟩, hn, ?_⟩
      exact q _ cs _ (Int.emod_nonneg _ (by omega)) (Int.emod_lt_of_pos _ hn)
def W_state : DS := dSeq (dSet 1 (dC (.int 7))) (dSeq (dFor (diList (dVar 0)) (dgName 2) (dSet 1 (dOp oMod (dCB cInt (dCons (dOp oAdd (dOp oMul (dVar 1) (dC (.int 31))) (dVar 2)) (dNil))) (dC (.int 1000003))))) (dRet (dLstM (dCons (dLcM (diList (dVar 0)) (dgName 2) (dYes) (dCB cAbs (dCons (dVar 2) (dNil))) [2]) (dCons (dOp oAdd (dVar 1) (dC (.int 1))) (dNil))))))
theorem rd_state : ∀ ds m Φ Ψ, ds.length = 1 → C_stateO ds m Φ Ψ → W_state { nx := fun _ m' => Φ .non m', rt := Φ } (fun _ => Ψ) (ds.map some ++ List.replicate (3 - ds.length) none) m := by
  intro ds m Φ Ψ _ h
  obtain ⟨⟨ns, rfl, hlen⟩, q⟩ := h
  change W_state _ _ [some (D.rol (ns.map D.int)), none, none] m
  unfold W_state
  walk_at "dl"
  refine forW_map (inj := D.int) (fun _ ρ m' => ∃ (s : Int) (v : Option D), ρ = [some (D.rol (ns.map D.int)), some (.int s), v] ∧ m' = m) ?_ ?_ ns _ _ ⟨7, none, rfl, rfl⟩
  · rintro x r kk hk ρ m' ⟨s, v, rfl, rfl⟩
    walk_at "dl"
    exact ⟨.inr (.inl ⟨by decide, by decide⟩), by decide, hk _ _ ⟨_, _, rfl, rfl⟩⟩
  · rintro ρ m' ⟨s, v, rfl, rfl⟩
    walk_at "dl"
    refine lcWM_fn (f := fun x => if x < 0 then -x else x) (out := D.int) _ ns [] (fun x _ m2 Θ hΘ => ?_) (by rw [List.length_nil]; show 0 + ns.length ≤ 16777216; omega) ?_
    · walk_at "dl"
      exact hΘ
    · walk_at "dl"
      have z := q (ns.map fun x => if x < 0 then -x else x) (s + 1)
      refine ⟨by decide, ?_⟩
      rw [List.length_append, List.length_singleton, List.nil_append]
      exact z

theorem ixN_of {n : Nat} {z : Int} (h0 : 0 ≤ z) (h : z < n) : ixN n z = some z.toNat := by
  unfold ixN
  rw [if_pos h0, if_pos h]
theorem atI_map {α : Type} {inj : α → D} {xs : List α} {z : Int} {x : α} (h0 : 0 ≤ z) (h : xs[z.toNat]? = some x) : atI (xs.map inj) z = some (inj x) := by
  have hl := (List.getElem?_eq_some_iff.mp h).1
  unfold atI
  rw [List.length_map, ixN_of h0 (by omega)]
  show (xs.map inj)[z.toNat]? = _
  rw [List.getElem?_map, h]; rfl
end Dl

namespace Dl
/-! ### sums and remainders -/
/-- like mod p -/
def Cg (p a b : Int) : Prop := a % p = b % p
section
variable {p a b c d : Int}
theorem Cg.refl : Cg p a a := rfl
theorem Cg.of_eq (h : a = b) : Cg p a b := by rw [h]; exact .refl
theorem Cg.symm (h : Cg p a b) : Cg p b a := Eq.symm h
theorem Cg.trans (h : Cg p a b) (g : Cg p b c) : Cg p a c := Eq.trans h g
theorem Cg.add (h : Cg p a b) (g : Cg p c d) : Cg p (a + c) (b + d) := by
  unfold Cg at *
  rw [Int.add_emod, h, g, ← Int.add_emod]
theorem Cg.mul (h : Cg p a b) (g : Cg p c d) : Cg p (a * c) (b * d) := by
  unfold Cg at *
  rw [Int.mul_emod, h, g, ← Int.mul_emod]
theorem Cg.neg (h : Cg p a b) : Cg p (-a) (-b) := by
  have z := Cg.mul (Cg.refl (p := p) (a := -1)) h
  rw [← Int.neg_eq_neg_one_mul, ← Int.neg_eq_neg_one_mul] at z
  exact z
theorem Cg.sub (h : Cg p a b) (g : Cg p c d) : Cg p (a - c) (b - d) := by
  rw [Int.sub_eq_add_neg, Int.sub_eq_add_neg]
  exact h.add g.neg
theorem Cg.mod : Cg p (a % p) a := Int.emod_emod_of_dvd _ (Int.dvd_refl _)
end
/-- f 0 + … + f (n-1) -/
def S : Nat → (Nat → Int) → Int
  | 0, _ => 0
  | n + 1, f => S n f + f n
end Dl

namespace Dl
open PySem L2 PyProof.Rows
/-! ### repr: asked by the law's own def alone, where no repr is under way -/
/-- small enough to be written out: depth at most n, weight at most k -/
structure OkR (n k : Nat) (d : D) : Prop where
  lay : okE n d = true
  shw : (toPy d).showable = true
  lvs : (toPy d).leavesShort 13 = true
  wgt : (toPy d).weight ≤ k
theorem OkR.int {n k : Nat} {i : Int} (h1 : -1000000000000 < i) (h2 : i < 1000000000000) (hk : 40 ≤ k) : OkR n k (.int i) where
  lay := rfl
  shw := by
    show decide (i.natAbs.log2 < 1920) = true

    by_cases h0 : i.natAbs = 0
    · rw [h0]; decide
    · have z := (Nat.log2_lt h0).mpr (show i.natAbs < 2 ^ 40 by omega)
      exact decide_eq_true (Nat.lt_trans z (by decide))
  lvs := decide_eq_true (PyData.shown_int_le (show i.natAbs < 10 ^ 12 by omega))
  wgt := by
    show (if i == 0 then 0 else i.natAbs.log2 + 1) ≤ k
    split
    · omega
    · have h0 : i.natAbs ≠ 0 := by
        rename_i h
        intro z
        apply h
        have : i = 0 := by omega
        rw [this]; rfl
      have := (Nat.log2_lt h0).mpr (show i.natAbs < 2 ^ 40 by omega)
      omega
theorem OkR.str {n k : Nat} {x : Str} (h : PyData.strOk x = true) (hl : (x.cps.toList.all fun c => decide (c < 16 ^ 8)) = true) (hk : x.cps.size ≤ k) : OkR n k (.str x) := ⟨h, rfl, hl, hk⟩
theorem OkR.bl {n k : Nat} {b : Bool} : OkR n k (.bl b) := ⟨rfl, rfl, rfl, Nat.zero_le _⟩
theorem OkR.non {n k : Nat} : OkR n k .non := ⟨rfl, rfl, rfl, Nat.zero_le _⟩
theorem okRs {n k : Nat} : ∀ {ds : List D}, (∀ d ∈ ds, OkR n k d) → okEs n ds = true ∧ PyData.showableAll (toPys ds) = true ∧ PyData.leavesShortAll 13 (toPys ds) = true ∧ PyData.weightAll (toPys ds) ≤ ds.length * (k + 1)
  | [], _ => ⟨rfl, rfl, rfl, by simp [toPys, PyData.weightAll]⟩
  | d :: ds, h => by
    obtain ⟨a, b, c, e⟩ := h d List.mem_cons_self
    obtain ⟨a2, b2, c2, e2⟩ := okRs fun x hx => h x (List.mem_cons_of_mem _ hx)
    refine ⟨?_, ?_, ?_, ?_⟩
    · show (okE n d && okEs n ds) = true
      rw [a, a2]; rfl
    · show (PyData.showable (toPy d) && PyData.showableAll (toPys ds)) = true
      rw [b, b2]; rfl
    · show (PyData.leavesShort 13 (toPy d) && PyData.leavesShortAll 13 (toPys ds)) = true
      rw [c, c2]; rfl
    · show PyData.weight (toPy d) + 1 + PyData.weightAll (toPys ds) ≤ (ds.length + 1) * (k + 1)
      rw [Nat.add_mul, Nat.one_mul]
      omega
theorem OkR.lst {n k j : Nat} {ds : List D} (h : ∀ d ∈ ds, OkR n k d) (hj : ds.length * (k + 1) ≤ j) : OkR (n + 1) j (.lst ds) := by
  obtain ⟨a, b, c, e⟩ := okRs h
  exact ⟨by show (decide (0 < n + 1) && okEs n ds) = true; rw [a]; simp, b, c, Nat.le_trans e hj⟩
theorem OkR.tup {n k j : Nat} {ds : List D} (h : ∀ d ∈ ds, OkR n k d) (hj : ds.length * (k + 1) ≤ j) : OkR (n + 1) j (.tup ds) := by
  obtain ⟨a, b, c, e⟩ := okRs h
  exact ⟨by show (decide (0 < n + 1) && okEs n ds) = true; rw [a]; simp, b, c, Nat.le_trans e hj⟩
/-! ### the law's own call, the surroundings known -/
section
variable {P : Program} {w : World} {K : PySem.W.Frag} {mg : Str → Option Value} {base : Heap}
end
/-! ### odds and ends -/
/-- one statement at a time: what follows is held back -/
theorem dSeq_k {a b : DS} {N : DN} {Ψ : XS} {ρ : Dl.Env} {m : MM} (h : ∀ k : Dl.Env → MM → Prop, k = b N Ψ → a { N with nx := k } Ψ ρ m) : dSeq a b N Ψ ρ m := h _ rfl
end Dl

namespace Dl
/-! ### primes -/
structure Prim (p : Int) : Prop where
  two : 2 ≤ p
  euc : ∀ a b : Int, p ∣ a * b → p ∣ a ∨ p ∣ b
/-! ### remainders by a prime -/
theorem Cg.iff_dvd {p a b : Int} : Cg p a b ↔ p ∣ a - b := Int.emod_eq_emod_iff_emod_sub_eq_zero.trans ⟨Int.dvd_of_emod_eq_zero, Int.emod_eq_zero_of_dvd⟩
theorem Cg.zero_iff {p a : Int} : Cg p a 0 ↔ p ∣ a := by
  rw [Cg.iff_dvd, Int.sub_zero]
theorem Prim.mul_zero {p a b : Int} (P : Prim p) (h : Cg p (a * b) 0) : Cg p a 0 ∨ Cg p b 0 := by
  rw [Cg.zero_iff, Cg.zero_iff]
  exact P.euc _ _ (Cg.zero_iff.mp h)
/-! ### the small theorem of Fermat -/
end Dl

namespace Dl
/-! ### polynomials by their coefficients -/
def pev : List Int → Int → Int
  | [], _ => 0
  | c :: cs, t => c + t * pev cs t
/-- the values of the ends -/
def syn (a : Int) : List Int → List Int
  | [] => []
  | c :: cs => pev (c :: cs) a :: syn a cs
theorem syn_len (a : Int) : ∀ cs : List Int, (syn a cs).length = cs.length
  | [] => rfl
  | c :: cs => by
    show (syn a cs).length + 1 = cs.length + 1
    rw [syn_len a cs]
theorem syn_div (a t : Int) : ∀ (c : Int) (cs : List Int), pev (c :: cs) t - pev (c :: cs) a = (t - a) * pev (syn a cs) t
  | c, [] => by
    show c + t * 0 - (c + a * 0) = (t - a) * 0
    omega
  | c, d :: ds => by
    have ih := syn_div a t d ds
    show c + t * pev (d :: ds) t - (c + a * pev (d :: ds) a) = (t - a) * (pev (d :: ds) a + t * pev (syn a ds) t)
    have e : t * ((t - a) * pev (syn a ds) t) = t * (pev (d :: ds) t - pev (d :: ds) a) := by rw [ih]
    grind
/-- all numbers of the list are 0 but for multiples of p -/
def Zer (p : Int) (cs : List Int) : Prop := ∀ c ∈ cs, Cg p c 0
theorem Zer.pev {p : Int} {cs : List Int} (h : Zer p cs) (t : Int) : Cg p (pev cs t) 0 := by
  induction cs with
  | nil => exact .refl
  | cons c cs ih =>
    have h1 := (h c List.mem_cons_self).add ((Cg.refl (a := t)).mul (ih fun x hx => h x (List.mem_cons_of_mem _ hx)))
    rw [Int.mul_zero] at h1
    exact h1
theorem Zer.of_syn {p a : Int} : ∀ {cs : List Int}, Zer p (syn a cs) → Zer p cs
  | [], _ => fun _ h => nomatch h
  | c :: cs, h => by
    have ih := Zer.of_syn (cs := cs) fun x hx => h x (List.mem_cons_of_mem _ hx)
    intro x hx
    rcases List.mem_cons.mp hx with rfl | hx
    · have h1 : Cg p (x + a * Dl.pev cs a) 0 := h _ List.mem_cons_self
      have h2 := (Cg.refl (a := a)).mul (ih.pev a)
      rw [Int.mul_zero] at h2
      have h3 := h1.sub h2
      rw [show x + a * Dl.pev cs a - a * Dl.pev cs a = x by omega] at h3
      exact h3
    · exact ih x hx
/-- as many roots as coefficients: nothing is left -/
theorem roots_zero {p : Int} (P : Prim p) : ∀ (xs cs : List Int), xs.Pairwise (fun x y => ¬ Cg p (x - y) 0) → cs.length ≤ xs.length → (∀ x ∈ xs, Cg p (pev cs x) 0) → Zer p cs
  | _, [], _, _, _ => fun _ h => nomatch h
  | [], c :: cs, _, h, _ => by simp at h
  | x :: xs, c :: cs, hd, hl, hr => by
    rw [List.pairwise_cons] at hd
    have hx := hr x List.mem_cons_self
    have hs : Zer p (syn x cs) := roots_zero P xs (syn x cs) hd.2 (by rw [syn_len]; simpa using hl) fun y hy => by
      have h1 := (hr y (List.mem_cons_of_mem _ hy)).sub hx
      rw [syn_div] at h1
      rcases P.mul_zero h1 with z | z
      · have z2 := z.neg
        rw [show -(y - x) = x - y by omega] at z2
        exact absurd z2 (hd.1 y hy)
      · exact z
    have hz := Zer.of_syn hs
    intro y hy
    rcases List.mem_cons.mp hy with rfl | hy
    · have h2 := (Cg.refl (a := x)).mul (hz.pev x)
      rw [Int.mul_zero] at h2
      have h1 : Cg p (y + x * pev cs x) 0 := hx
      have h3 := h1.sub h2
      rw [show y + x * pev cs x - x * pev cs x = y by omega] at h3
      exact h3
    · exact hz y hy
def padd : List Int → List Int → List Int
  | [], ds => ds
  | cs, [] => cs
  | c :: cs, d :: ds => (c + d) :: padd cs ds
theorem padd_pev (t : Int) : ∀ cs ds : List Int, pev (padd cs ds) t = pev cs t + pev ds t
  | [], ds => by
    show pev ds t = 0 + pev ds t
    omega
  | c :: cs, [] => by
    show pev (c :: cs) t = pev (c :: cs) t + 0
    omega
  | c :: cs, d :: ds => by
    show c + d + t * pev (padd cs ds) t = c + t * pev cs t + (d + t * pev ds t)
    rw [padd_pev t cs ds, Int.mul_add]; omega
theorem padd_len : ∀ cs ds : List Int, (padd cs ds).length = max cs.length ds.length
  | [], ds => by simp [padd]
  | c :: cs, [] => by simp [padd]
  | c :: cs, d :: ds => by
    show (padd cs ds).length + 1 = max (cs.length + 1) (ds.length + 1)
    rw [padd_len cs ds]; omega
theorem pmul_pev (a t : Int) : ∀ cs : List Int, pev (cs.map fun c => a * c) t = a * pev cs t
  | [] => by show (0 : Int) = a * 0; omega
  | c :: cs => by
    show a * c + t * pev (cs.map fun c => a * c) t = a * (c + t * pev cs t)
    rw [pmul_pev a t cs, Int.mul_add, ← Int.mul_assoc, ← Int.mul_assoc, Int.mul_comm t a]
/-- f is a polynomial of degree at most n, but for multiples of p -/
def Pol (p : Int) (n : Nat) (f : Int → Int) : Prop := ∃ cs : List Int, cs.length ≤ n + 1 ∧ ∀ t, Cg p (f t) (pev cs t)
section
variable {p : Int} {n m : Nat} {f g : Int → Int}
theorem Pol.const (c : Int) : Pol p n (fun _ => c) := ⟨[c], by simp, fun t => .of_eq (by show c = c + t * 0; omega)⟩
theorem Pol.mono (h : Pol p n f) (l : n ≤ m) : Pol p m f := by
  obtain ⟨cs, h1, h2⟩ := h
  exact ⟨cs, by omega, h2⟩
theorem Pol.congr (h : Pol p n f) (e : ∀ t, Cg p (g t) (f t)) : Pol p n g := by
  obtain ⟨cs, h1, h2⟩ := h
  exact ⟨cs, h1, fun t => (e t).trans (h2 t)⟩
theorem Pol.add (h : Pol p n f) (k : Pol p n g) : Pol p n fun t => f t + g t := by
  obtain ⟨cs, h1, h2⟩ := h
  obtain ⟨ds, k1, k2⟩ := k
  exact ⟨padd cs ds, by rw [padd_len]; omega, fun t => by rw [padd_pev]; exact (h2 t).add (k2 t)⟩
theorem Pol.smul (a : Int) (h : Pol p n f) : Pol p n fun t => a * f t := by
  obtain ⟨cs, h1, h2⟩ := h
  exact ⟨cs.map fun c => a * c, by rw [List.length_map]; exact h1, fun t => by rw [pmul_pev]; exact Cg.mul .refl (h2 t)⟩
theorem Pol.sub (h : Pol p n f) (k : Pol p n g) : Pol p n fun t => f t - g t :=
  (h.add (k.smul (-1))).congr fun t => .of_eq (by omega)
theorem Pol.sum {F : Nat → Int → Int} : ∀ k : Nat, (∀ i < k, Pol p n (F i)) → Pol p n fun t => S k fun i => F i t
  | 0, _ => .const 0
  | k + 1, h => (Pol.sum k fun i hi => h i (by omega)).add (h k (by omega))
theorem Pol.pev (cs : List Int) (h : cs.length ≤ n + 1) : Pol p n (Dl.pev cs) := ⟨cs, h, fun _ => .refl⟩
/-- equal at n + 1 places: equal everywhere -/
theorem Pol.ext (P : Prim p) (h : Pol p n f) (k : Pol p n g) (xs : List Int) (hd : xs.Pairwise (fun x y => ¬ Cg p (x - y) 0)) (hl : n + 1 ≤ xs.length) (e : ∀ x ∈ xs, Cg p (f x) (g x)) (t : Int) : Cg p (f t) (g t) := by
  obtain ⟨cs, h1, h2⟩ := h.sub k
  have z := roots_zero P xs cs hd (by omega) fun x hx => by
    have := (e x hx).sub (Cg.refl (a := g x))
    rw [Int.sub_self] at this
    exact (h2 x).symm.trans this
  have w := ((h2 t).trans (z.pev t)).add (Cg.refl (a := g t))
  rw [show f t - g t + g t = f t by omega, Int.zero_add] at w
  exact w
end
/-! ### Lagrange -/
/-! ### more of reading -/
open PySem L2 in
/-- a comprehension with a condition: c tells which are taken, f what is laid -/
theorem lcW_fil {α β : Type} {inj : α → D} {out : β → D} {g : DG} {tt : DT} {te : DE} {ρ : Dl.Env} {Φ : D → MM → Prop} (f : α → β) (c : α → Bool) (m : MM) (xs : List α)
    (hg : ∀ x ∈ xs, ∀ (m' : MM) (Θ : D → MM → Prop) (Υ : Prop), m'.s = m.s → (c x = true → Θ (out (f x)) m') → (c x = false → Υ) → g (inj x) ρ m' (fun ρ1 m1 => m1 = m' ∧ tt ρ1 m' (fun b m2 => m2 = m' ∧ if b = true then te ρ1 m' Θ XF else Υ) XF)) (hc : ∀ y, clD m.M.length (out y) = true) (hl : xs.length ≤ LIM) (h : Φ (.lst (((xs.filter c).map f).map out)) m) :
    lcW g tt te ρ Φ (xs.map inj) [] m := by
  have key : ∀ (ys : List α), (∀ x ∈ ys, x ∈ xs) → ∀ (acc : List D), acc.length + ys.length ≤ LIM → Φ (.lst (acc ++ ((ys.filter c).map f).map out)) m → lcW g tt te ρ Φ (ys.map inj) acc m := by
    intro ys
    induction ys with
    | nil =>
      intro _ acc _ h
      rw [List.filter_nil, List.map_nil, List.map_nil, List.append_nil] at h
      exact h
    | cons x ys ih =>
      intro hx acc hl h
      rw [List.length_cons] at hl
      refine hg x (hx x List.mem_cons_self) (m.push (.lst acc)) (fun y m3 => m3 = m.push (.lst acc) ∧ acc.length < LIM ∧ clD m.M.length y = true ∧ lcW g tt te ρ Φ (ys.map inj) (acc ++ [y]) m) _ rfl (fun e => ?_) fun e => ?_
      · rw [List.filter_cons, if_pos e, List.map_cons, List.map_cons] at h
        exact ⟨rfl, by omega, hc _, ih (fun y hy => hx y (List.mem_cons_of_mem _ hy)) _ (by rw [List.length_append, List.length_singleton]; omega) (by rw [List.append_assoc]; exact h)⟩
      · rw [List.filter_cons, if_neg (by rw [e]; decide)] at h
        exact ih (fun y hy => hx y (List.mem_cons_of_mem _ hy)) _ (by omega) h
  exact key xs (fun x h => h) [] (by rw [List.length_nil]; omega) (by rw [List.nil_append]; exact h)
theorem All2.all {α : Type} {P : Int → Prop} {xs : List α} {ys : List Int} (h : All2 (fun _ y => P y) xs ys) : ∀ y ∈ ys, P y := by
  induction h with
  | nil => intro y hy; cases hy
  | cons h _ ih =>
    intro y hy
    rcases List.mem_cons.mp hy with rfl | hy
    · exact h
    · exact ih y hy
end Dl

namespace Dl
open PySem L2
/-! ### a list over and over -/
end Dl

namespace Dl
open PySem L2
/-! ### the drawing state of the other kind: a row of numbers, the first a place in it -/
section
variable {K : PySem.W.Frag} {w : Wd} {m : MM} {H : Hp} {A c : Addr}
end
section
variable {P : Program} {w : World} {K : PySem.W.Frag} {mg : Str → Option Value} {base : Heap} {x : Str} {lv : Nat} {ps : List Str}
end
local macro_rules | `(tactic| walk_at "dl") => `(tactic| try simp only [dSeq, dSet, dOp, dUn, dVar, dC, dCB, dCons, dNil, dRet, dRetN, dIf, dB, dAnd, dOr, dNot, dDrop, dNext, dMethL, dSetIx, dAndV, dOrV, dNotV, dBlV, dIfE, dLst, dTup, dLstM, dCall, dChain, dAsg, dgName, dgTup, bindD, asT, dFor, diList, diRng1, diRng2, diEnumerate, diZip, diReversed, dLc, dLcM, dYes, wipeD, dAug, dSl, dpN, dpS,
  oI, oI0, oB0, oAdd, oNeg, oEq, oNe, oIx, oIsN, oNotN, isNon, oShl, oApp, oPop, oPopAt, cLen, cInt, cAbs, cSum, cMax2, cMin2, cList, cIsi, tyD, asL, asF, asK, moL_lst, ModC, DivC,
  List.getElem?_cons_zero, List.getElem?_cons_succ, List.set_cons_zero, List.set_cons_succ, List.getElem?_nil, List.length_cons, List.length_nil, List.length_map, Option.map_some, Option.bind_some, Option.isSome_some, if_true, true_and, and_true, MM.push])
end Dl

namespace Dl
open PySem L2
/-! ### an own list that will not change any more -/
end Dl

namespace Dl
open PySem L2 PyProof.Rows
/-! ### errors of own classes: made and raised -/
/-- what the written part must say of a class B whose __init__ is ValueError's, called by name -/
structure InitC (K : PySem.W.Frag) (B : Addr) : Prop where
  rd : PySem.W.readsIn K B (.type "type") = true
  ga : PySem.W.specialIn K (.ref B) "__getattribute__" = some (some (.builtin "type.__getattribute__"))
  at_ : PySem.W.findCls K (.ref B) (.type "type") "__init__" = some (.val (.builtin "ValueError.__init__"))
section
variable {X : Cx} {B : Addr} {x : Str} {o e : Expr} {es : List Expr} {ta : TA} {p1 p2 pos : Pos}
theorem pe_binit {pl : Sem Bool} (hg : Gl X x) (hm : X.mg x = some (.ref B)) (T : InitC X.K B) (ha : PA X (e :: es) ta) (hdb : (x == ("__debug__" : Str)) = false := by decide)
    (hc : eval (.Call (.Attribute (.Name x p1) "__init__" p2) (e :: es) [] pos) X.env = (do
      let ov ← eval (.Name x p1) X.env
      standAt p2.atName
      let (f, first) ← holding [ov] (getMethod ov "__init__" pl)
      callWith pos f first (backTo pos (starEach (e :: es) X.env)) (backToKw pos (keywordEach [] X.env))) := by rfl)
    (he : starEach (e :: es) X.env = (false, eval e X.env) :: starEach es X.env := by rfl) (hpl : (backTo pos (starEach es X.env)).any (·.1) = false := by rfl) :
    PE X (.Call (.Attribute (.Name x p1) "__init__" p2) (e :: es) [] pos) (tVeI X.K ta) := by
  constructor
  intro pins s σ H Q I told
  apply PySem.W.methodCall_KW _ hc
  apply ld_glob I hg hm _ hdb
  apply PySem.W.method_cls I.kIn T.ga
  apply PySem.W.cls_value I.kIn T.rd T.at_ (by decide +kernel)
  refine PyProof.Rows.callWith_method1 (wpAny_mono (ha.run pos pins _ σ H _ (I.tok _) told) ?_ fun _ _ z => z) he hpl
  rintro us s1 ⟨vs, H1, I1, rs, a, C, ws, rfl, many, okC, there, go⟩
  match us, rs with
  | u :: ur, .cons ra rr =>
    cases ra
    exact oinit_ok okC I1 there (by rw [← Paired.length rr, sizeLine_eq]; omega) fun s' J => ⟨.non, H1, J, rfl, go⟩
end
/-- the promise of an __init__ that keeps its arguments in the fields fs -/
def spErr (C : Addr) (fs : List Str) : Sp := fun vs H Q _ => ∃ (a : Addr) (ws : List V), vs = .ref a :: ws ∧ ws.length = fs.length ∧ H a = some (exo a C none) ∧
  ∀ dx, H dx = none → dx ≠ a → Q .non (upd (upd H dx (exd dx (fs.zip ws).reverse)) a (exo a C (some dx)))
section
variable {P : Program} {w : World} {K : PySem.W.Frag} {mg : Str → Option Value} {base : Heap}
/-- def __init__(self, y): B.__init__(self, 'text'); self.f = y -/
theorem err_init1 {qual y f t : Str} {st st1 st2 : Stmt} {fI : Addr} {fd : FuncData} {C : Addr} (F : Fun K "__init__" qual st fI fd) (S : FnScope ["self", y] ["self", y] (defScope st)) (hb : defBody st = [st1, st2])
    (g1 : ∀ (cdv : Value) (A : Around) (outer : List PySem.Env) (s : Shared) (H : Hp) (E : XK), PS (cxOf (L2.CX P w) P w K mg base ["self", y] qual (defScope st) fI cdv A outer s H E) st1 (tDrop (tVeI K (tCons (tVar 0) (tCons (tC (.str t)) tNil)))))
    (g2 : ∀ (cdv : Value) (A : Around) (outer : List PySem.Env) (s : Shared) (H : Hp) (E : XK), PS (cxOf (L2.CX P w) P w K mg base ["self", y] qual (defScope st) fI cdv A outer s H E) st2 (tOst K f (tVar 0) (tVar 1)))
    (T2 : OexC K C) (hno : PySem.W.findIn K (.ref C) f = some none) : FnOk P w K mg base (L2.CX P w) 1 fI fd ["self", y] (spErr C [f]) := by
  refine F.okX S (fun vs H Q E ⟨a, ws, e, l, _⟩ => by rw [e, List.length_cons, l]; rfl) fun cdv A outer s H vs Q E hr ⟨a, ws, e, l, ha, q⟩ => ?_
  obtain ⟨v, rfl⟩ : ∃ v, ws = [v] := by
    match ws, l with
    | [v], _ => exact ⟨v, rfl⟩
  rw [hb]
  refine ⟨_, pss_cons (g1 cdv A outer s H E) (pss_one (g2 cdv A outer s H E)), ?_⟩
  subst e
  refine ⟨_, rfl, ⟨a, C, [.str t], rfl, by show 1 ≤ 1000; decide, T2, ha, ?_⟩⟩
  exact ⟨_, rfl, _, rfl, a, C, rfl, T2, hno, .inl ⟨ha, fun dx n ne => q dx n ne⟩⟩
/-- an own error class that can be made -/
structure ErrOk (P : Program) (w : World) (K : PySem.W.Frag) (mg : Str → Option Value) (base : Heap) (c : String) (fs : List String) : Prop where
  mgc : mg (PySem.Str.ofString c) = some (.ref (kcl K c))
  oex : OexC K (kcl K c)
  len : fs.length ≤ 100
  ini : ∃ (fI : Addr) (fd : FuncData) (ps : List Str), PySem.W.findIn K (.ref (kcl K c)) "__init__" = some (some (.ref fI)) ∧ PySem.W.typeIn K (.ref fI) = some (.type "function") ∧ BA fd ps ∧
    FnOk P w K mg base (L2.CX P w) 1 fI fd ps (spErr (kcl K c) (fs.map PySem.Str.ofString))
end
/-- raise C(e, ..): what follows is the wish of the error -/
def dRaise (c : String) (fs : List String) (r : DA) : DS := fun _ Ψ ρ m => r ρ m (fun ds m1 => ds.length = fs.length ∧ Ψ ρ c (fs.zip ds).reverse m1) (Ψ ρ)
theorem RepF.append {K : PySem.W.Frag} {w : Wd} : ∀ {ds es : List (String × D)} {vs us : List (Str × V)}, RepF K w ds vs → RepF K w es us → RepF K w (ds ++ es) (vs ++ us)
  | [], _, _, _, h, g => by
    have q : _ = [] := h
    subst q; exact g
  | (f, d) :: ds, _, _, _, h, g => by
    obtain ⟨v, r, rfl, a, b⟩ := h
    exact ⟨v, _, rfl, a, RepF.append b g⟩
theorem RepF.reverse {K : PySem.W.Frag} {w : Wd} {ds : List (String × D)} {vs : List (Str × V)} (h : RepF K w ds vs) : RepF K w ds.reverse vs.reverse := by
  induction ds generalizing vs with
  | nil =>
    have q : vs = [] := h
    subst q; exact rfl
  | cons d ds ih =>
    obtain ⟨f, d⟩ := d
    obtain ⟨v, r, rfl, a, b⟩ := h
    rw [List.reverse_cons, List.reverse_cons]
    exact RepF.append (ih b) ⟨v, [], rfl, a, rfl⟩
theorem repF_zip {K : PySem.W.Frag} {w : Wd} : ∀ {fs : List String} {ds : List D} {vs : List V}, RepAll K w ds vs → RepF K w (fs.zip ds) ((fs.map PySem.Str.ofString).zip vs)
  | [], _, _, _ => rfl
  | f :: fs, [], vs, r => by
    have e : vs = [] := r
    subst e; exact rfl
  | f :: fs, d :: ds, vs, r => by
    obtain ⟨v, r', rfl, a, b⟩ := r
    exact ⟨v, _, rfl, a, repF_zip b⟩
section
variable {X : Cx} {E : WX} {c : String} {fs : List String} {e : Expr} {es : List Expr} {Ws : DA} {p cpos pos : Pos}
theorem js_raise (hc : X.calm = true) (tk : Takes X E) (G : ErrOk X.prog X.w X.K X.mg X.base c fs) (hg : Gl X (PySem.Str.ofString c)) (hr : Room 2 X.A) (ha : JA X E (e :: es) Ws)
    (hdb : (PySem.Str.ofString c == ("__debug__" : Str)) = false := by decide) (he : starEach (e :: es) X.env = (false, eval e X.env) :: starEach es X.env := by rfl) (hpl : (backTo cpos (starEach es X.env)).any (·.1) = false := by rfl) :
    JS X E (.Raise (some (.Call (.Name (PySem.Str.ofString c) p) (e :: es) [] cpos)) none pos) (dRaise c fs Ws) := by
  obtain ⟨hm, T, hlen, fI, fd, ps, iC, tI, b, F1⟩ := G
  refine PS.imp (ps_raise hc tk (pmk_oex T iC tI F1 hr (Binds.all b) .nil passL hg hm ha hdb he hpl)) fun D σ H ⟨w, ρ, m, Ψ, N, a, n, q⟩ => ?_
  refine ⟨w, ρ, m, Ψ ρ, _, a.at, ?_, q⟩
  intro ds m1 w1 H1 vs l1 h1 r1 ⟨hl, q1⟩
  have hvl : vs.length = fs.length := r1.length.trans hl
  refine ⟨by show vs.length ≤ 1000; omega, fun b hb0 => ⟨b, vs, by rw [List.append_nil], by rw [List.length_map]; exact hvl, upd_same, fun dx hdx hne => ⟨rfl, dx, ((fs.map PySem.Str.ofString).zip vs).reverse, upd_same, ?_, ?_, ?_⟩⟩⟩
  · rw [upd_ne hne, upd_same]
  · rw [upd_ne hne] at hdx
    exact hdx
  · have hd1 : H1 dx = none := by rw [upd_ne hne] at hdx; exact hdx
    have eh : upd (del (upd (upd (upd H1 b (exo b (kcl X.K c) none)) dx (exd dx ((fs.map PySem.Str.ofString).zip vs).reverse)) b (exo b (kcl X.K c) (some dx))) b) dx (.xd ((fs.map PySem.Str.ofString).zip vs).reverse) = upd H1 dx (.xd ((fs.map PySem.Str.ofString).zip vs).reverse) := by
      funext z
      by_cases z1 : z = dx
      · rw [z1, upd_same, upd_same]
      · rw [upd_ne z1, upd_ne z1]
        by_cases z2 : z = b
        · rw [z2, del_same, hb0]
        · rw [del_ne z2, upd_ne z2, upd_ne z1, upd_ne z2]
    rw [eh]
    have lw : w1.le (w1.put dx (.xd ((fs.map PySem.Str.ofString).zip vs).reverse)) := Wd.le_put (h1.nof hd1)
    exact a.x ρ σ w (.refl w) a.s c (fs.zip ds).reverse m1 _ _ dx _ (l1.trans lw) (h1.put hd1) upd_same (RepF.reverse (repF_zip (RepAll.mono lw _ _ r1))) q1
end

/-! ### try .. except B as n -/
/-- L tells of each class whether the clause takes it -/
def dTryAs (i : Nat) (L : List (String × Bool)) (body : DS) (su : Addr → Addr → String → DS) : DS := fun N Ψ ρ m =>
  body N (fun ρ' c fs m' => match L.lookup c with
    | some true => ∀ a d, su a d c { nx := fun ρ2 m2 => N.nx (ρ2.set i none) m2, rt := N.rt, bk := fun ρ2 m2 => N.bk (ρ2.set i none) m2, ct := fun ρ2 m2 => N.ct (ρ2.set i none) m2 } (fun _ => XF) (ρ'.set i (some (.exc a d c fs))) m'
    | some false => Ψ ρ' c fs m'
    | none => False) ρ m
def CatT (K : PySem.W.Frag) (B : String) (L : List (String × Bool)) : Prop := ∀ c b, L.lookup c = some b → PySem.W.exmOne K (.ref (kcl K c)) (.ref (kcl K B)) = some b ∧ PySem.W.kitOne K (.ref (kcl K c)) (.ref (kcl K B)) = some b
theorem catT_nil {K : PySem.W.Frag} {B : String} : CatT K B [] := fun c b h => by cases h
theorem catT_cons {K : PySem.W.Frag} {B c : String} {b : Bool} {L : List (String × Bool)} {C CB : Addr} (e1 : PySem.W.nsIn K mainGlobals (PySem.Str.ofString c) = some (some (.ref C))) (e2 : PySem.W.nsIn K mainGlobals (PySem.Str.ofString B) = some (some (.ref CB)))
    (k1 : PySem.W.subIn K (.ref CB) (.type "BaseException") = some true) (k2 : PySem.W.hasDictIn K CB = true) (k3 : PySem.W.typeIn K (.ref CB) = some (.type "type")) (k4 : PySem.W.subIn K (.ref C) (.ref CB) = some b) (k5 : C = CB → b = true) (r : CatT K B L) : CatT K B ((c, b) :: L) := fun c' b' h => by
  rw [List.lookup_cons] at h
  cases q : c' == c with
  | true =>
    rw [q] at h
    cases h
    have e := beq_iff_eq.mp q
    subst e
    rw [kcl_of e1, kcl_of e2]
    have kc : PySem.W.kitCls K (.ref C) (.ref CB) = some b := by
      have z := PySem.W.exm_ref k1 k2 k3 k4
      unfold PySem.W.exmOne at z
      rw [if_pos (by rw [k1]; rfl)] at z
      exact z
    refine ⟨PySem.W.exm_ref k1 k2 k3 k4, ?_⟩
    unfold PySem.W.kitOne
    by_cases hc : C = CB
    · rw [k5 hc, if_pos (by rw [hc]; exact beq_self_eq_true _)]
    · rw [if_neg (fun z => hc (Value.ref.inj (beq_iff_eq.mp z)))]
      exact kc
  | false => rw [q] at h; exact r c' b' h
section
variable {X : Cx} {E : WX} {B : String} {L : List (String × Bool)} {n : Str} {body suite : List Stmt} {b₀ : Stmt} {np pos pos' : Pos} {t : DS} {su : Addr → Addr → String → DS}
theorem js_try_as (i : Nat) (hN : X.N.Nodup) (hi : X.N[i]? = some n) (tk : Takes X E) (hg : Gl X (PySem.Str.ofString B)) (hm : X.mg (PySem.Str.ofString B) = some (.ref (kcl X.K B))) (T : CatT X.K B L)
    (hb : ∀ (W : WX) (pn : List (Addr × Obj)) (xe : Value → Shared → Prop), Takes (X.tr pn xe) W → PassesOwn (model X.prog X.w) X.A X.env xe → JSs (X.tr pn xe) W body t)
    (hsu : ∀ (a : Addr) (oe : Obj) (c : String) (d : Addr) (pn : List (Addr × Obj)), L.lookup c = some true → Zc (.ref (kcl X.K c)) (some d) oe → (∃ vs, oe.data = .fields vs) → JSs (X.suite a ((a, oe) :: pn)) EF (b₀ :: suite) (su a d c))
    (hln : X.env.kindOf n = some .local := by rfl) (hdb : (PySem.Str.ofString B == ("__debug__" : Str)) = false := by decide) (hs : X.stack = X.env :: X.outer := by rfl) (hf : X.env.frame = some X.env.locals := by rfl) :
    JS X E (.Try body [.ExceptHandler (some (.Name (PySem.Str.ofString B) np)) (some n) (b₀ :: suite) pos'] [] [] pos) (dTryAs i L t su) := by
  refine PS.imp (ps_try_as (tb := fun W => liftS X.K W t) (ts := fun a cls d D σ H => ∃ c dd, cls = .ref (kcl X.K c) ∧ d = some dd ∧ L.lookup c = some true ∧ liftS X.K EF (su a dd c) D σ H) hs hf hN hi hln ⟨hg, hdb, .inl hm⟩ tk hb ?_) ?_
  · intro a oe cls d pn hz hf
    refine ⟨fun pins s σ H D I q => ?_⟩
    obtain ⟨c, dd, rfl, rfl, hl, q⟩ := q
    exact (hsu a oe c dd pn hl hz hf).run pins s σ H D I q
  · rintro D σ H ⟨w, ρ, m, Ψ, N, a, nn, q⟩
    refine ⟨w, ρ, m, _, N, ⟨a.h, a.s, ?_⟩, nn, q⟩
    intro ρ' σ' w1 l1 s1 c fs m' w2 H' d xs l2 h2 hd rf q2
    cases hl : L.lookup c with
    | none =>
      have q3 : (match L.lookup c with
            | some true => ∀ a d, su a d c { nx := fun ρ2 m2 => N.nx (ρ2.set i none) m2, rt := N.rt, bk := fun ρ2 m2 => N.bk (ρ2.set i none) m2, ct := fun ρ2 m2 => N.ct (ρ2.set i none) m2 } (fun _ => XF) (ρ'.set i (some (.exc a d c fs))) m'
            | some false => Ψ ρ' c fs m'
            | none => False) := q2
      rw [hl] at q3
      exact q3.elim
    | some b =>
      refine ⟨b, (T c b hl).1, fun hb a' ha' => ?_, fun hb => ?_⟩
      · subst hb
        have q3 : (match L.lookup c with
            | some true => ∀ a d, su a d c { nx := fun ρ2 m2 => N.nx (ρ2.set i none) m2, rt := N.rt, bk := fun ρ2 m2 => N.bk (ρ2.set i none) m2, ct := fun ρ2 m2 => N.ct (ρ2.set i none) m2 } (fun _ => XF) (ρ'.set i (some (.exc a d c fs))) m'
            | some false => Ψ ρ' c fs m'
            | none => False) := q2
        rw [hl] at q3
        have n2 := nn.mono (l1.trans l2)
        refine ⟨c, d, rfl, rfl, hl, w2, _, m', _, { nx := fun ρ2 m2 => N.nx (ρ2.set i none) m2, rt := N.rt, bk := fun ρ2 m2 => N.bk (ρ2.set i none) m2, ct := fun ρ2 m2 => N.ct (ρ2.set i none) m2 }, ⟨h2, (s1.mono l2).set (d := .exc a' d c fs) i ⟨rfl, xs, hd, rf⟩, fun _ _ _ _ _ => xlift_F⟩, ?_, q3 a' d⟩
        exact ⟨fun ρ3 m3 w3 H3 σ3 l3 h3 s3 q3 => n2.nx _ m3 w3 H3 _ l3 h3 (s3.wipe i) q3, n2.rt, fun ρ3 m3 w3 H3 σ3 l3 h3 s3 q3 => n2.bk _ m3 w3 H3 _ l3 h3 (s3.wipe i) q3, fun ρ3 m3 w3 H3 σ3 l3 h3 s3 q3 => n2.ct _ m3 w3 H3 _ l3 h3 (s3.wipe i) q3⟩
      · subst hb
        have q3 : (match L.lookup c with
            | some true => ∀ a d, su a d c { nx := fun ρ2 m2 => N.nx (ρ2.set i none) m2, rt := N.rt, bk := fun ρ2 m2 => N.bk (ρ2.set i none) m2, ct := fun ρ2 m2 => N.ct (ρ2.set i none) m2 } (fun _ => XF) (ρ'.set i (some (.exc a d c fs))) m'
            | some false => Ψ ρ' c fs m'
            | none => False) := q2
        rw [hl] at q3
        exact a.x ρ' σ' w1 l1 s1 c fs m' w2 H' d xs l2 h2 hd rf q3
end
/-! in the suite -/
/-- what the written part says of an own error class whose instances are looked at -/
structure ErrS (K : PySem.W.Frag) (C : Addr) : Prop where
  ga : PySem.W.findIn K (.ref C) "__getattribute__" = some (some (.builtin "BaseException.__getattribute__"))
  gg : PySem.W.findIn K (.ref C) "__getattr__" = some none
  exC : PySem.W.subIn K (.ref C) (.type "BaseException") = some true
  hdC : PySem.W.hasDictIn K C = true
  ha : PySem.W.findIn K (.ref C) "__class__" = some (some (.builtin "object.__class__"))
  hn : PySem.W.specialIn K (.builtin "object.__class__") "__get__" = some (some (.builtin "getset_descriptor.__get__"))
  ht : PySem.W.takesIn K (.builtin "object.__class__") = some true
  hm : PySem.W.mroIn K C (.type "object") = some true
theorem ErrS.xf {K : PySem.W.Frag} {C : Addr} (h : ErrS K C) : XfC K C := ⟨h.ga, h.gg, h.exC, h.hdC⟩
/-- e.f -/
def dXf (a d : Addr) (f : String) (o : DE) : DE := fun ρ m Φ Ψ => o ρ m (fun x m1 => match x with
  | .exc a' d' _ fs => a' = a ∧ d' = d ∧ ∃ v, fs.lookup f = some v ∧ Φ v m1
  | _ => False) Ψ
section
variable {X : Cx} {a d : Addr} {oe : Obj} {c : String} {pn : List (Addr × Obj)} {o : Expr} {W : DE} {f : String} {pos : Pos}
theorem je_xf (T : ErrS X.K (kcl X.K c)) (hno : PySem.W.findIn X.K (.ref (kcl X.K c)) (PySem.Str.ofString f) = some none) (hz : Zc (.ref (kcl X.K c)) (some d) oe) (hf : ∃ vs, oe.data = .fields vs) (ho : JE (X.suite a ((a, oe) :: pn)) EF o W)
    (hb : attributeBase o (PySem.Str.ofString f) X.env (eval o X.env) = eval o X.env := by rfl) : JE (X.suite a ((a, oe) :: pn)) EF (.Attribute o (PySem.Str.ofString f) pos) (dXf a d f W) :=
  PE.imp (pe_xf T.xf hno hz hf ho hb) fun σ H Q ⟨w, ρ, m, Ψ, Φ, at_, vl, q⟩ => by
  refine ⟨w, ρ, m, Ψ, _, at_, fun x m1 w1 H1 v l1 h1 r1 q1 => ?_, q⟩
  cases x with
  | exc a' d' c' fs =>
    obtain ⟨rfl, rfl, y, hy, q1⟩ := q1
    obtain ⟨rfl, xs, hx, rf⟩ := r1
    obtain ⟨u, hu, ru⟩ := rf.look hy
    exact ⟨rfl, rfl, d', xs, u, rfl, h1.ext _ _ hx, hu, vl y m1 w1 H1 u l1 h1 ru q1⟩
  | _ => exact False.elim q1
/-- isinstance(e, c), e the exception that the suite holds -/
def rIsE2 (K : PySem.W.Frag) (D a dd : Addr) : List V → Hp → VK → Prop := fun xs H Q => ∃ (c : V) (cv : Value) (b : Bool) (fs : List (Str × V)), xs = [.ref a, c] ∧ (∀ u, RelV c u → u = cv) ∧ H dd = some (.xd fs) ∧ PySem.W.kitOne K (.ref D) cv = some b ∧ Q (.bl b) H
theorem kitx_errS {K : PySem.W.Frag} {D x : Addr} {ox : Obj} {od : Option Obj} (T : ErrS K D) : PySem.W.KitX K (.ref x) (.ref D) (fun h => PySem.W.InstAt h x ox D od) where
  ty := fun _ _ _ I => I.type
  it := fun _ _ X _ => by
    obtain ⟨cdD, hcD, _⟩ := PySem.W.any_some T.hdC
    unfold PySem.W.clsIn at hcD
    split at hcD
    · rename_i c' d' cd' sl' ho
      intro A' Q' E' s' k q
      unfold isType loadHead
      exact wpAny_bind (PySem.wpAny_loadPart (k _ _ (X _ _ ho)) (wpAny_pure q))
    · cases hcD
  ne := fun h tp dd its n sl X htp => by
    obtain ⟨cdD, hcD, _⟩ := PySem.W.any_some T.hdC
    refine Bool.eq_false_iff.mpr fun q => ?_
    have e : D = tp := Value.ref.inj (beq_iff_eq.mp q)
    subst e
    unfold PySem.W.clsIn at hcD
    split at hcD
    · rename_i c' d' cd' sl' ho
      have z := (X _ _ ho).symm.trans htp
      cases z
    · cases hcD
  ca := fun X I k => PySem.W.kx_classE X I T.ga T.gg T.exC (PySem.W.findObj_dataE (by obtain ⟨cd, hc, _⟩ := PySem.W.any_some T.hdC; rw [hc]; rfl) T.ha T.hn T.ht) T.hm k
theorem call_isE2 {D dd : Addr} (T : ErrS X.K D) (hz : Zc (.ref D) (some dd) oe) (hf : ∃ vs, oe.data = .fields vs) : CallR (X.suite a ((a, oe) :: pn)) (.builtin "isinstance") (rIsE2 X.K D a dd) := by
  intro pins s σ H xs us Q I r h
  obtain ⟨c, cv, b, fs, rfl, hcv, hdd, e, q⟩ := h
  cases r with
  | cons rx rr =>
    cases rr with
    | cons rt rr =>
      cases rr
      cases rx
      have ec := hcv _ rt
      subst ec
      obtain ⟨hget, _⟩ := I.pin (a, oe) (List.mem_append.mpr (.inl List.mem_cons_self))
      obtain ⟨vs, hv⟩ := hf
      have hx : ObjOk X.prog X.w H s.heap dd (.xd fs) := I.hok dd _ hdd
      obtain ⟨mA, hns, hr⟩ := hx
      obtain ⟨od, ho, hl⟩ := lookIn_ns hns
      have J : PySem.W.InstAt s.heap a oe D (some od) := ⟨hget, hz.1, by unfold PySem.W.notCls; rw [hv] <;> rfl, by rw [hz.2]; exact ho⟩
      exact PySem.W.kia_one (kitx_errS T) I.kIn J e (fun z => nomatch z) fun tk => ⟨.bl b, H, I.kept (t' := tk) fun _ _ z => z, rfl, q⟩
/-- isinstance(e, B) of the caught error -/
def dIsE (a d : Addr) (L : List (String × Bool)) (B : String) (c : String) (o : DE) : DE := fun ρ m Φ Ψ => o ρ m (fun x m1 => match x with
  | .exc a' d' _ _ => a' = a ∧ d' = d ∧ ∃ b, L.lookup c = some b ∧ Φ (.bl b) m1
  | _ => False) Ψ
theorem je_isE {B : String} {L : List (String × Bool)} {p p2 : Pos} (T : ErrS X.K (kcl X.K c)) (TL : CatT X.K B L) (hz : Zc (.ref (kcl X.K c)) (some d) oe) (hf : ∃ vs, oe.data = .fields vs) (hgi : Gl X "isinstance") (hmi : X.mg "isinstance" = none)
    (hg : Gl X (PySem.Str.ofString B)) (hm : X.mg (PySem.Str.ofString B) = some (.ref (kcl X.K B))) (ho : JE (X.suite a ((a, oe) :: pn)) EF o W)
    (hdb : (PySem.Str.ofString B == ("__debug__" : Str)) = false := by decide)
    (he : starEach [o, .Name (PySem.Str.ofString B) p2] X.env = (false, eval o X.env) :: starEach [.Name (PySem.Str.ofString B) p2] X.env := by rfl)
    (he2 : starEach [.Name (PySem.Str.ofString B) p2] X.env = (false, eval (.Name (PySem.Str.ofString B) p2) X.env) :: starEach [] X.env := by rfl)
    (hpl : (backTo pos (starEach [.Name (PySem.Str.ofString B) p2] X.env)).any (·.1) = false := by rfl) :
    JE (X.suite a ((a, oe) :: pn)) EF (.Call (.Name "isinstance" p) [o, .Name (PySem.Str.ofString B) p2] [] pos) (dIsE a d L B c W) :=
  PE.imp (pe_callB (call_isE2 T hz hf) hgi hmi bt_isinstance (pa_cons ho (pa_cons (pe_glob (v := .ref (kcl X.K B)) (u := .ref (kcl X.K B)) hg hm rfl hdb) pa_nil he2) he) (by decide) (by decide) he hpl) fun σ H Q ⟨w, ρ, m, Ψ, Φ, at_, vl, q⟩ => by
  refine ⟨w, ρ, m, Ψ, _, at_, fun x m1 w1 H1 v l1 h1 r1 q1 => ?_, q⟩
  cases x with
  | exc a' d' c' fs =>
    obtain ⟨rfl, rfl, b, hb, q1⟩ := q1
    obtain ⟨rfl, xs, hx, rf⟩ := r1
    exact ⟨_, .ref (kcl X.K B), b, xs, rfl, fun u h => h, h1.ext _ _ hx, (TL c b hb).2, vl (.bl b) m1 w1 H1 _ l1 h1 rfl q1⟩
  | _ => exact False.elim q1
end

/-! ### what the top must say of the classes -/
def Hnos (K : PySem.W.Frag) (C : Addr) (fs : List String) : Prop := ∀ f ∈ fs, PySem.W.findIn K (.ref C) (PySem.Str.ofString f) = some none
structure ErrT (K : PySem.W.Frag) (mg : Str → Option Value) (c : String) (q : Str) (st : Stmt) (ps : List Str) (fs : List String) : Prop where
  mgc : mg (PySem.Str.ofString c) = some (.ref (kcl K c))
  oex : OexC K (kcl K c)
  hno : Hnos K (kcl K c) fs
  ini : ∃ (fI : Addr) (fd : FuncData), PySem.W.findIn K (.ref (kcl K c)) "__init__" = some (some (.ref fI)) ∧ PySem.W.typeIn K (.ref fI) = some (.type "function") ∧ Fun K "__init__" q st fI fd ∧ BA fd ps
theorem errT_mk {K : PySem.W.Frag} {h : Heap} {mg : Str → Option Value} {c : String} {q : Str} {st : Stmt} {ps : List Str} {fs : List String} {C fI : Addr} {od an : Option Addr} {sl : Array (Option Value)} {oc kV dc pm cd ct : Value}
    {nm qq N bs bm sn sub ab col dd k0 k1 k2 k3 k5} (X : K.In h) (G : h.Ns mainGlobals mg)
    (a : PySem.W.nsIn K mainGlobals (PySem.Str.ofString c) = some (some (.ref C)))
    (c1 : K.lookup C = some (excClassObj nm qq C N bs bm true sn sub ab col dd k0 k1 k2 k3 k5 "ValueError.__new__")) (c2 : PySem.HandSPX.refsVE bm = true)
    (c3 : PySem.W.findIn K (.ref C) "__setattr__" = some (some (.builtin "object.__setattr__"))) (c4 : PySem.W.subIn K (.ref C) (.type "BaseException") = some true)
    (c5 : PySem.W.typeIn K (.ref C) = some (.type "type")) (c6 : PySem.W.keepIn K (.ref C) = true) (hno : Hnos K C fs)
    (i1 : PySem.W.findIn K (.ref C) "__init__" = some (some (.ref fI))) (i2 : PySem.W.typeIn K (.ref fI) = some (.type "function"))
    (l : K.lookup fI = some ⟨oc, od, .func (PySem.W.fnOf "__init__" q (defArgs st) (defBody st) (defScope st) .none kV dc pm an cd ct), sl⟩) (cc : PySem.W.codeIn K cd q = true) (k : PySem.W.keepIn K (.ref fI) = true)
    (b : ∀ (kV doc pm : Value) (an : Option Addr) (cdv ct : Value) (us : List Value), us.length = ps.length → bindArgs (PySem.W.fnOf "__init__" q (defArgs st) (defBody st) (defScope st) .none kV doc pm an cdv ct) ⟨us, []⟩ = pure (ps.zip us)) : ErrT K mg c q st ps fs := by
  have e := kcl_of a
  refine ⟨?_, ?_, ?_, fI, _, ?_, i2, fun_mk l cc k, b kV dc pm an cd ct⟩
  · rw [e]; exact PySem.W.mg_of X G a
  · rw [e]; exact ⟨⟨nm, qq, N, bs, bm, sn, sub, ab, col, dd, k0, k1, k2, k3, k5, c1, c2⟩, c3, c4, c5, c6⟩
  · rw [e]; exact hno
  · rw [e]; exact i1
structure InitB (K : PySem.W.Frag) (mg : Str → Option Value) (b : String) : Prop where
  mgb : mg (PySem.Str.ofString b) = some (.ref (kcl K b))
  ini : InitC K (kcl K b)
theorem initB_mk {K : PySem.W.Frag} {h : Heap} {mg : Str → Option Value} {c : String} {C : Addr} (X : K.In h) (G : h.Ns mainGlobals mg) (a : PySem.W.nsIn K mainGlobals (PySem.Str.ofString c) = some (some (.ref C)))
    (rd : PySem.W.readsIn K C (.type "type") = true) (ga : PySem.W.specialIn K (.ref C) "__getattribute__" = some (some (.builtin "type.__getattribute__"))) (at_ : PySem.W.findCls K (.ref C) (.type "type") "__init__" = some (.val (.builtin "ValueError.__init__"))) : InitB K mg c := by
  have e := kcl_of a
  refine ⟨?_, ?_⟩
  · rw [e]; exact PySem.W.mg_of X G a
  · rw [e]; exact ⟨rd, ga, at_⟩
def ErrSs (K : PySem.W.Frag) (L : List (String × Bool)) (fs : List String) : Prop := ∀ c b, L.lookup c = some b → ErrS K (kcl K c) ∧ Hnos K (kcl K c) fs
theorem errSs_nil {K : PySem.W.Frag} {fs : List String} : ErrSs K [] fs := fun c b h => by cases h
theorem errSs_cons {K : PySem.W.Frag} {c : String} {b : Bool} {L : List (String × Bool)} {fs : List String} {C : Addr} (e1 : PySem.W.nsIn K mainGlobals (PySem.Str.ofString c) = some (some (.ref C)))
    (k1 : ErrS K C) (k2 : Hnos K C fs) (r : ErrSs K L fs) : ErrSs K ((c, b) :: L) fs := fun c' b' h => by
  rw [List.lookup_cons] at h
  cases q : c' == c with
  | true =>
    rw [q] at h
    have e := beq_iff_eq.mp q
    subst e
    rw [kcl_of e1]
    exact ⟨k1, k2⟩
  | false => rw [q] at h; exact r c' b' h
theorem je_globE {X : Cx} {E : WX} {x : Str} {i : Int} {pos : Pos} (hg : Gl X x) (hm : ∃ t, X.mg x = some (.int i t)) (hd : (x == ("__debug__" : Str)) = false := by decide) : JE X E (.Name x pos) (dC (.int i)) := by
  obtain ⟨t, hm⟩ := hm
  exact je_globI hg hm hd
theorem dRaise_one {c f : String} {a : DE} {N : DN} {Ψ : XS} {ρ : Dl.Env} {m : MM} : dRaise c [f] (dCons a dNil) N Ψ ρ m = a ρ m (fun x m1 => Ψ ρ c [(f, x)] m1) (Ψ ρ) := by
  simp [dRaise, dCons, dNil]
theorem dRaise_two {c f g : String} {a b : DE} {N : DN} {Ψ : XS} {ρ : Dl.Env} {m : MM} : dRaise c [f, g] (dCons a (dCons b dNil)) N Ψ ρ m = a ρ m (fun x m1 => b ρ m1 (fun y m2 => Ψ ρ c [(g, y), (f, x)] m2) (Ψ ρ)) (Ψ ρ) := by
  simp [dRaise, dCons, dNil]
theorem okE_int {n : Nat} {i : Int} : okE n (.int i) = true := rfl
theorem okE_bl {n : Nat} {b : Bool} : okE n (.bl b) = true := rfl
theorem okE_non {n : Nat} : okE n .non = true := rfl
end Dl

namespace Dl
open PySem L2 PyProof.Rows
/-! ### max, min of a list -/
def cMaxL : DCB := fun ds m Φ => match ds with
  | [d] => match asL m d with
    | some xs => ∃ ns, intsD xs = some ns ∧ 0 < ns.length ∧ ∀ k, k ∈ ns → (∀ y, y ∈ ns → y ≤ k) → Φ (.int k) m
    | none => False
  | _ => False
def cMinL : DCB := fun ds m Φ => match ds with
  | [d] => match asL m d with
    | some xs => ∃ ns, intsD xs = some ns ∧ 0 < ns.length ∧ ∀ k, k ∈ ns → (∀ y, y ∈ ns → k ≤ y) → Φ (.int k) m
    | none => False
  | _ => False
/-! ### shifts -/
def oShr : DO := oI (fun _ j => 0 ≤ j) fun i j => i / 2 ^ j.toNat
/-! ### xs.extend(ys) -/
def oExt : D → List D → MM → (D → MM → Prop) → Prop := fun x ds m Φ => match x, ds with
  | .hnd k, [y] => match moL m.M[k]?, asK m y with
    | some xs, some ys => xs.length + ys.length ≤ LIM ∧ Φ .non ⟨m.M.set k (.lst (xs ++ ys)), m.s⟩
    | _, _ => False
  | _, _ => False
/-! ### in, not in -/
def memD (x : D) (ys : List D) : Bool := ys.any fun y => eqD y x
def oInL (neg : Bool) : DO := fun x y m Φ => match y with
  | .lst ys => okE 64 x = true ∧ okE 64 (.lst ys) = true ∧ Φ (.bl (if neg then !memD x ys else memD x ys)) m
  | .rol ys => okE 64 x = true ∧ okE 64 (.rol ys) = true ∧ Φ (.bl (if neg then !memD x ys else memD x ys)) m
  | _ => False
/-! ### is True, is False -/
def oIsB : DO := fun x y m Φ => match x, y with
  | .bl a, .bl b => Φ (.bl (decide (a = b))) m
  | _, _ => False
def oNotB : DO := fun x y m Φ => match x, y with
  | .bl a, .bl b => Φ (.bl (!decide (a = b))) m
  | _, _ => False
/-! ### any -/
def blsD : List D → Option (List Bool)
  | [] => some []
  | .bl b :: r => (blsD r).map (b :: ·)
  | _ => none
def cAny : DCB := fun ds m Φ => match ds with
  | [d] => match asL m d with
    | some xs => ∃ bs, blsD xs = some bs ∧ Φ (.bl (bs.any id)) m
    | none => False
  | _ => False
/-! ### xs[::-1] -/
def dRevL (a : DE) : DE := fun ρ m Φ Ψ => a ρ m (fun d m1 => match asL m1 d with
  | some ds => Φ (.lst ds.reverse) m1
  | none => False) Ψ
section
variable {X : Cx} {E : WX} {a : Expr} {Wa : DE} {pos : Pos}
end
/-! ### a comprehension over two walks -/
section
variable {X : Cx} {E : WX}
end
end Dl

namespace Dl
open PySem L2 PyProof.Rows
/-! ### objects of own classes -/
def moI : Option MO → Option (String × List (String × D))
  | some (.ins c fs) => some (c, fs)
  | _ => none
theorem moI_ins {c : String} {fs : List (String × D)} : moI (some (.ins c fs)) = some (c, fs) := rfl
/-- o.f -/
def dFld (cs : List String) (f : String) (o : DE) : DE := fun ρ m Φ Ψ => o ρ m (fun x m1 => match x with
  | .hnd k => match moI m1.M[k]? with
    | some (c, fs) => cs.contains c = true ∧ ∃ v, fs.lookup f = some v ∧ Φ v m1
    | none => False
  | _ => False) Ψ
section
variable {X : Cx} {E : WX} {o e : Expr} {Wo We : DE} {f : String} {cs : List String} {pos p' tpos : Pos}
/-- o.f = e -/
def dSetF (cs : List String) (f : String) (e o : DE) : DS := fun N Ψ ρ m => e ρ m (fun v m1 => o ρ m1 (fun x m2 => match x with
  | .hnd k => match moI m2.M[k]? with
    | some (c, fs) => cs.contains c = true ∧ fs.length < 1000 ∧ N.nx ρ ⟨m2.M.set k (.ins c (putD f v fs)), m2.s⟩
    | none => False
  | _ => False) (Ψ ρ)) (Ψ ρ)
/-- o.f += e, of ints -/
def dAugF (cs : List String) (f : String) (g : Int → Int → Int) (e o : DE) : DS := fun N Ψ ρ m => o ρ m (fun x m1 => match x with
  | .hnd k => match moI m1.M[k]? with
    | some (c, fs) => cs.contains c = true ∧ ∃ i, fs.lookup f = some (.int i) ∧ e ρ m1 (fun y m2 => match y, moI m2.M[k]? with
      | .int j, some (c', fs') => c' = c ∧ fs'.length < 1000 ∧ N.nx ρ ⟨m2.M.set k (.ins c (putD f (.int (g i j)) fs')), m2.s⟩
      | _, _ => False) (Ψ ρ)
    | none => False
  | _ => False) (Ψ ρ)
end
/-! ### methods -/
/-- a method of the class c keeps its worth -/
def OkM (P : Program) (w : World) (K : PySem.W.Frag) (base : Heap) (mg : Str → Option Value) (c : String) (mn : String) (lv : Nat) (ps : List Str) (C : DC) : Prop :=
  ∃ f fd, Cls K (kcl K c) ∧ Meth K (kcl K c) (PySem.Str.ofString mn) f ∧ BA fd ps ∧ FnOk P w K mg base (L2.CX P w) lv f fd ps (spOf K ps.length C)
section
variable {P : Program} {w : World} {K : PySem.W.Frag} {base : Heap} {mg : Str → Option Value} {mn : String} {lv n : Nat}
theorem OkM.mono {c : String} {lv' : Nat} {ps : List Str} {C : DC} (h : OkM P w K base mg c mn lv ps C) (l : lv ≤ lv') : OkM P w K base mg c mn lv' ps C := by
  obtain ⟨f, fd, a, b, c, d⟩ := h
  exact ⟨f, fd, a, b, c, d.mono l⟩
end
section
variable {X : Cx} {E : WX} {o e : Expr} {es : List Expr} {ta : TE} {t : TA} {mn : Str} {apos pos : Pos}
end
/-- o.m(..): tab tells each class's worth -/
def dMeth (tab : List (String × DC)) (mn : String) (n : Nat) (o : DE) (r : DA) : DE := fun ρ m Φ Ψ => o ρ m (fun x m1 => match x with
  | .hnd k => match moI m1.M[k]? with
    | some (c, fs) => match tab.lookup c with
      | some C => fs.lookup mn = none ∧ r ρ m1 (fun ds m2 => ds.length = n ∧ C (.hnd k :: ds) m2 Φ Ψ) Ψ
      | none => False
    | none => False
  | _ => False) Ψ
section
variable {X : Cx} {E : WX} {o e : Expr} {es : List Expr} {Wo : DE} {Ws : DA} {mn : String} {apos pos : Pos} {tab : List (String × DC)} {lv n : Nat}
end
/-! ### C(..) -/
def dMake (n : Nat) (c : String) (C : DC) (r : DA) : DE := fun ρ m Φ Ψ => r ρ m (fun ds m1 => ds.length = n ∧ C (.hnd m1.M.length :: ds) (m1.push (.ins c [])) (fun d m2 => d = .non ∧ Φ (.hnd m1.M.length) m2) Ψ) Ψ
section
variable {X : Cx} {E : WX} {e : Expr} {es : List Expr} {Ws : DA} {c : String} {p pos : Pos} {lv : Nat} {ps : List Str} {C : DC}
end
/-! ### a def's own objects let go, others changed -/
def kept (m0 : MM) (M1 : List MO) : Prop := M1.length = m0.M.length ∧ ∀ (i : Nat) o, M1[i]? = some o → m0.M[i]? = some o ∨ clO m0.M.length o = true
theorem kept.rfl {m : MM} : kept m m.M := ⟨_root_.rfl, fun _ _ h => .inl h⟩
theorem kept.set {m : MM} {M1 : List MO} {k : Nat} {o : MO} (h : kept m M1) (c : clO m.M.length o = true) : kept m (M1.set k o) := by
  refine ⟨by rw [List.length_set]; exact h.1, fun i o' e => ?_⟩
  by_cases hi : k = i
  · subst hi
    by_cases hl : k < M1.length
    · rw [List.getElem?_set_self hl] at e
      cases e; exact .inr c
    · rw [List.getElem?_eq_none (by rw [List.length_set]; omega)] at e; cases e
  · rw [List.getElem?_set_ne hi] at e
    exact h.2 i o' e
def retQ (m0 : MM) (Φ : D → MM → Prop) : D → MM → Prop := fun d m' => ∃ M1 L d', m'.M = M1 ++ L ∧ kept m0 M1 ∧ (d' = d ∨ ∃ j ds, d = .hnd (m0.M.length + j) ∧ L[j]? = some (.lst ds) ∧ d' = .lst ds) ∧ clD m0.M.length d' = true ∧ Φ d' ⟨M1, m'.s⟩
def retX (m0 : MM) (Ψ : XP) : XP := fun c fs m' => ∃ M1 L, m'.M = M1 ++ L ∧ kept m0 M1 ∧ clF m0.M.length fs = true ∧ Ψ c fs ⟨M1, m'.s⟩
section
variable {P : Program} {w : World} {K : PySem.W.Frag} {mg : Str → Option Value} {base : Heap}
theorem cut_kept {w0 : Wd} {m : MM} {H0 H' : Hp} {w2 : Wd} {m2 : MM} {M1 L : List MO} (h0 : HRep K w0 m H0) (h2 : HRep K w2 m2 H') (e : m2.M = M1 ++ L) (k : kept m M1) : HRep K (w2.cut m.M.length) ⟨M1, m2.s⟩ H' := by
  have et : m2.M.take m.M.length = M1 := by rw [e, ← k.1, List.take_left' rfl]
  have z := h2.cut (n := m.M.length) fun o ho => by
    rw [et] at ho
    obtain ⟨i, hi, rfl⟩ := List.mem_iff_getElem.mp ho
    rcases k.2 i _ (List.getElem?_eq_getElem hi) with q | q
    · exact h0.cls _ (List.mem_of_getElem? q)
    · exact q
  have em : m2.cut m.M.length = ⟨M1, m2.s⟩ := by
    show (⟨m2.M.take m.M.length, m2.s⟩ : MM) = _
    rw [et]
  rw [em] at z
  exact z
theorem okDQ {x qual : Str} {st : Stmt} {f : Addr} {fd : FuncData} {N ps : List Str} {k : Nat} {C : DC} {W : DS} (F : Fun K x qual st f fd) (S : FnScope N ps (defScope st))
    (hb : ∀ (cdv : Value) (A : Around) (outer : List PySem.Env) (s : Shared) (H : Hp) (E : XK), Room k (A.deeper (envOfC qual (defScope st) s.heap.objs.size f cdv)) → JSs (cxOf (L2.CX P w) P w K mg base N qual (defScope st) f cdv A outer s H E) (wishE E) (defBody st) W)
    (hC : ∀ ds m Φ Ψ, ds.length = ps.length → C ds m Φ Ψ → W { nx := fun _ m' => retQ m Φ .non m', rt := retQ m Φ } (fun _ => retX m Ψ) (ds.map some ++ List.replicate (N.length - ds.length) none) m) :
    FnOk P w K mg base (L2.CX P w) (k + 1) f fd ps (spOf K ps.length C) := by
  refine F.okX S (fun vs H Q E h => h.1) fun cdv A outer s H vs Q E hr h => ⟨_, hb cdv A outer s H E hr, ?_⟩
  obtain ⟨hl, w0, ds, m, Φ, Ψ, h0, r, vl, xl, c⟩ := h
  have hd : ds.length = ps.length := r.length.symm.trans hl
  have hlen : w0.th.length = m.M.length := h0.len
  refine ⟨w0, _, m, fun _ => retX m Ψ, _, ⟨h0, slots_start r, fun ρ σ w1 l1 _ C fs m' w' H' d xs l a b c q => ?_⟩, ?_, hC ds m Φ Ψ hd c⟩
  · obtain ⟨M1, L, e, kp, hcl, q⟩ := q
    exact xl C fs ⟨M1, m'.s⟩ (w'.cut m.M.length) H' d xs (Wd.le_cut (l1.trans l) (Nat.le_of_eq hlen)) (cut_kept h0 a e kp) b (RepF.cut _ _ c hcl) q
  have fin : VLift K w0 Q (retQ m Φ) := fun d m' w' H' v l h' rd ⟨M1, L, d', e, kp, hd', hcl, q⟩ => by
    rcases hd' with rfl | ⟨j, es', rfl, ej, rfl⟩
    · exact vl _ _ _ H' v (Wd.le_cut l (Nat.le_of_eq hlen)) (cut_kept h0 h' e kp) (Rep.cut _ _ rd hcl) q
    · obtain ⟨a, rfl, q2⟩ := rd
      have em : m'.M[m.M.length + j]? = some (.lst es') := by
        rw [e, ← kp.1, List.getElem?_append_right (Nat.le_add_right _ _), Nat.add_sub_cancel_left]; exact ej
      obtain ⟨xs, fa, hx, rr, hf⟩ := h'.frz q2 em
      refine vl (.lst es') ⟨M1, m'.s⟩ ((w'.put a (.lst xs)).cut m.M.length) H' _ (Wd.le_cut (l.trans (Wd.le_put fa)) (Nat.le_of_eq hlen)) (cut_kept (m2 := ⟨m'.M.set (m.M.length + j) .dead, m'.s⟩) (L := L.set j .dead) h0 hf ?_ kp) ?_ q
      · show m'.M.set (m.M.length + j) .dead = _
        rw [e, ← kp.1, List.set_append_right _ _ (Nat.le_add_right _ _), Nat.add_sub_cancel_left]
      · exact ⟨a, xs, rfl, upd_same, RepAll.cut _ _ (RepAll.mono (Wd.le_put fa) _ _ rr) hcl⟩
  exact ⟨fun ρ m' w' H' σ l h' _ q => fin .non m' w' H' _ l h' rfl q, fin, fun _ _ _ _ _ _ _ _ q => q.elim, fun _ _ _ _ _ _ _ _ q => q.elim⟩
end
/-! ### what the top must say of the classes -/
end Dl

namespace Dl
open PySem L2 PyProof.Rows
section
variable {X : Cx} {E : WX}
end
/-! ### == where a side may be a list that changes -/
def deref (m : MM) : D → D
  | .hnd k => match moL m.M[k]? with
    | some ds => .lst ds
    | none => .hnd k
  | d => d
def oEqH : DO := fun x y m Φ => okE 64 (deref m x) = true ∧ okE 64 (deref m y) = true ∧ Φ (.bl (eqD (deref m x) (deref m y))) m
def oNeH : DO := fun x y m Φ => okE 64 (deref m x) = true ∧ okE 64 (deref m y) = true ∧ Φ (.bl (!eqD (deref m x) (deref m y))) m
/-- list(x), a list that changes later -/
def cListM : DCB := fun ds m Φ => match ds with
  | [d] => match asL m d with
    | some xs => Φ (.hnd m.M.length) (m.push (.lst xs))
    | none => match asT d with
      | some xs => Φ (.hnd m.M.length) (m.push (.lst xs))
      | none => False
  | _ => False
def cAll : DCB := fun ds m Φ => match ds with
  | [d] => match asL m d with
    | some xs => ∃ bs, blsD xs = some bs ∧ Φ (.bl (bs.all id)) m
    | none => False
  | _ => False
def cTuple : DCB := fun ds m Φ => match ds with
  | [d] => match asL m d with
    | some xs => Φ (.tup xs) m
    | none => match asT d with
      | some _ => Φ d m
      | none => False
  | _ => False
-- kit_all
theorem kq_NoneType_int : kitB "NoneType" "int" = some false := by decide +kernel
theorem kq_NoneType_bool : kitB "NoneType" "bool" = some false := by decide +kernel
theorem kq_NoneType_list : kitB "NoneType" "list" = some false := by decide +kernel
theorem kq_NoneType_tuple : kitB "NoneType" "tuple" = some false := by decide +kernel
theorem kq_NoneType_str : kitB "NoneType" "str" = some false := by decide +kernel
theorem kq_bool_int : kitB "bool" "int" = some true := by decide +kernel
theorem kq_bool_bool : kitB "bool" "bool" = some true := by decide +kernel
theorem kq_bool_list : kitB "bool" "list" = some false := by decide +kernel
theorem kq_bool_tuple : kitB "bool" "tuple" = some false := by decide +kernel
theorem kq_bool_str : kitB "bool" "str" = some false := by decide +kernel
theorem kq_int_int : kitB "int" "int" = some true := by decide +kernel
theorem kq_int_bool : kitB "int" "bool" = some false := by decide +kernel
theorem kq_int_list : kitB "int" "list" = some false := by decide +kernel
theorem kq_int_tuple : kitB "int" "tuple" = some false := by decide +kernel
theorem kq_int_str : kitB "int" "str" = some false := by decide +kernel
theorem kq_str_int : kitB "str" "int" = some false := by decide +kernel
theorem kq_str_bool : kitB "str" "bool" = some false := by decide +kernel
theorem kq_str_list : kitB "str" "list" = some false := by decide +kernel
theorem kq_str_tuple : kitB "str" "tuple" = some false := by decide +kernel
theorem kq_str_str : kitB "str" "str" = some true := by decide +kernel
theorem kq_list_int : kitB "list" "int" = some false := by decide +kernel
theorem kq_list_bool : kitB "list" "bool" = some false := by decide +kernel
theorem kq_list_list : kitB "list" "list" = some true := by decide +kernel
theorem kq_list_tuple : kitB "list" "tuple" = some false := by decide +kernel
theorem kq_list_str : kitB "list" "str" = some false := by decide +kernel
theorem kq_tuple_int : kitB "tuple" "int" = some false := by decide +kernel
theorem kq_tuple_bool : kitB "tuple" "bool" = some false := by decide +kernel
theorem kq_tuple_list : kitB "tuple" "list" = some false := by decide +kernel
theorem kq_tuple_tuple : kitB "tuple" "tuple" = some true := by decide +kernel
theorem kq_tuple_str : kitB "tuple" "str" = some false := by decide +kernel
/-! ### plain data -/
mutual
def plD : D → Bool
  | .non => true
  | .bl _ => true
  | .int _ => true
  | .str x => PyData.strOk x
  | .lst ds => plDs ds
  | .tup ds => plDs ds
  | _ => false
def plDs : List D → Bool
  | [] => true
  | d :: ds => plD d && plDs ds
end
mutual
theorem okE_mono : ∀ (d : D) {n k : Nat}, okE n d = true → n ≤ k → okE k d = true
  | .non, _, _, _, _ => rfl
  | .bl _, _, _, _, _ => rfl
  | .int _, _, _, _, _ => rfl
  | .str _, _, _, h, _ => h
  | .lst ds, n, k, h, l => by
    have h : (decide (0 < n) && okEs (n - 1) ds) = true := h
    rw [Bool.and_eq_true] at h
    have h0 := of_decide_eq_true h.1
    show (decide (0 < k) && okEs (k - 1) ds) = true
    rw [decide_eq_true (by omega), okEs_mono ds h.2 (by omega)]; rfl
  | .rol ds, n, k, h, l => by
    have h : (decide (0 < n) && okEs (n - 1) ds) = true := h
    rw [Bool.and_eq_true] at h
    have h0 := of_decide_eq_true h.1
    show (decide (0 < k) && okEs (k - 1) ds) = true
    rw [decide_eq_true (by omega), okEs_mono ds h.2 (by omega)]; rfl
  | .tup ds, n, k, h, l => by
    have h : (decide (0 < n) && okEs (n - 1) ds) = true := h
    rw [Bool.and_eq_true] at h
    have h0 := of_decide_eq_true h.1
    show (decide (0 < k) && okEs (k - 1) ds) = true
    rw [decide_eq_true (by omega), okEs_mono ds h.2 (by omega)]; rfl
  | .rot ds, n, k, h, l => by
    have h : (decide (0 < n) && okEs (n - 1) ds) = true := h
    rw [Bool.and_eq_true] at h
    have h0 := of_decide_eq_true h.1
    show (decide (0 < k) && okEs (k - 1) ds) = true
    rw [decide_eq_true (by omega), okEs_mono ds h.2 (by omega)]; rfl
  | .ty _, _, _, h, _ => nomatch h
  | .cls _, _, _, h, _ => nomatch h
  | .hnd _, _, _, h, _ => nomatch h
  | .st _, _, _, h, _ => nomatch h
  | .exc _ _ _ _, _, _, h, _ => nomatch h
theorem okEs_mono : ∀ (ds : List D) {n k : Nat}, okEs n ds = true → n ≤ k → okEs k ds = true
  | [], _, _, _, _ => rfl
  | d :: ds, n, k, h, l => by
    have h : (okE n d && okEs n ds) = true := h
    rw [Bool.and_eq_true] at h
    show (okE k d && okEs k ds) = true
    rw [okE_mono d h.1 l, okEs_mono ds h.2 l]; rfl
end
mutual
theorem clD_pl {n : Nat} : ∀ (d : D), plD d = true → clD n d = true
  | .non, _ => rfl
  | .bl _, _ => rfl
  | .int _, _ => rfl
  | .str _, _ => rfl
  | .lst ds, h => clAll_pl ds h
  | .tup ds, h => clAll_pl ds h
theorem clAll_pl {n : Nat} : ∀ (ds : List D), plDs ds = true → clAll n ds = true
  | [], _ => rfl
  | d :: ds, h => by
    have h : (plD d && plDs ds) = true := h
    rw [Bool.and_eq_true] at h
    show (clD n d && clAll n ds) = true
    rw [clD_pl d h.1, clAll_pl ds h.2]; rfl
end
/-- data are like themselves -/
theorem eqD_self {d : D} {n : Nat} (o : okE n d = true) : eqD d d = true := SeqAt.eqv_refl _ (okE_lay d n o).1
theorem app_len {M : List MO} {o : MO} : (M ++ [o])[M.length]? = some o := by rw [List.getElem?_append_right (Nat.le_refl _)]; simp
theorem set_app {M : List MO} {o z : MO} : (M ++ [o]).set M.length z = M ++ [z] := by rw [List.set_append_right _ _ (Nat.le_refl _)]; simp
theorem retQ_lst {m : MM} {Φ : D → MM → Prop} {xs : List D} (hc : clAll m.M.length xs = true) (q : Φ (.lst xs) m) : retQ m Φ (.hnd m.M.length) ⟨m.M ++ [.lst xs], m.s⟩ := ⟨m.M, [.lst xs], .lst xs, rfl, kept.rfl, .inr ⟨0, xs, rfl, rfl, rfl⟩, hc, q⟩
/-! ### repr of None too -/
section
variable {X : Cx} {E : WX} {a : Expr} {Wa : DE} {pos : Pos}
/-- a slice of a tuple, not the whole of it -/
def dSlT (a : DE) (lo hi : DPt) : DE := fun ρ m Φ Ψ => a ρ m (fun d m1 => lo ρ m1 (fun l m2 => hi ρ m2 (fun u m3 => match d with
  | .tup ds => ¬ (HT.sIx ds.length 0 l = 0 ∧ HT.sIx ds.length ds.length u = ds.length) ∧ Φ (.tup (cutD ds l u)) m3
  | _ => False) Ψ) Ψ) Ψ
end
end Dl

namespace Dl
open PySem L2
/-! ### a def that stands under another name; targets that are fields -/
section
variable {X : Cx} {E : WX} {o : Expr} {Wo : DE} {pos : Pos} {js : List Nat}
theorem PGs.imp {ts : List Expr} {t t' : TGs} (h : PGs X ts t) (i : ∀ vs σ H Q, t' vs σ H Q → t vs σ H Q) : PGs X ts t' := ⟨fun pins s σ H vs us Q I r q => h.run pins s σ H vs us Q I r (i vs σ H Q q)⟩
end
end Dl

namespace Dl
open PySem L2
/-! ### a comprehension whose items change the store; [x] * n as a changing list -/
section
variable {X : Cx} {E : WX}
end
end Dl

namespace Dl
open PySem L2
/-! ### a changing list by a comprehension whose items change the store -/
section
variable {X : Cx} {E : WX}
end
end Dl

namespace Dl
open PySem L2
/-! ### a walk over a tuple -/
section
variable {X : Cx} {E : WX}
theorem wlk_tup {K : PySem.W.Frag} {w : Wd} {a : Addr} {xs : List V} {ds : List D} (q : SqT K w.F a xs) (r : RepAll K w ds xs) : Wlk K w (Itt K a) ds where
  go := fun w1 m H i d l h e => by
    obtain ⟨v, e1, _⟩ := r.get e
    exact ⟨xs, v, sqt_mono (fun a o z => h.ext a o (l.F a o z)) q, e1⟩
  stop := fun w1 m H l h => ⟨xs, sqt_mono (fun a o z => h.ext a o (l.F a o z)) q, Nat.le_of_eq r.length⟩
  yld := fun w1 m H i d x H' l h e y => by
    obtain ⟨rfl, y⟩ := y
    obtain ⟨v, e1, rv⟩ := r.get e
    have z := y xs (sqt_mono (fun a o z => h.ext a o (l.F a o z)) q)
    rw [e1] at z; cases z
    exact ⟨w1, .refl w1, h, Rep.mono l _ _ rv⟩
theorem asT_fix {K : PySem.W.Frag} {w : Wd} {d : D} {ds : List D} {v : V} (e : asT d = some ds) (r : Rep K w d v) : ∃ a xs, v = .ref a ∧ SqT K w.F a xs ∧ RepAll K w ds xs := by
  cases d with
  | tup es => cases e; obtain ⟨a, xs, e, q, r⟩ := r; exact ⟨a, xs, e, .inl (.inl q), r⟩
  | rot es => cases e; obtain ⟨a, xs, e, q, r⟩ := r; exact ⟨a, xs, e, q, r⟩
  | _ => cases e
def diTupI (e : DE) : DI := fun ρ m Φ Ψ => e ρ m (fun d m1 => match asT d with
  | some ds => Φ ds m1
  | none => False) Ψ
theorem ji_tup {tg : Expr} {a : Expr} {Wa : DE} (h : JE X E a Wa) : JI X E tg a (diTupI Wa) := PI.imp (pi_tup h) fun σ H R ⟨w, ρ, m, Ψ, Φ, a, n, h⟩ => by
  refine ⟨w, ρ, m, Ψ, _, a, fun d m1 w1 H1 v l1 h1 r1 q1 => ?_, h⟩
  split at q1
  · rename_i ds e
    obtain ⟨a, xs, rfl, q, r⟩ := asT_fix e r1
    exact ⟨a, rfl, ⟨xs, sqt_mono h1.ext q⟩, n ds m1 w1 H1 _ l1 h1 (wlk_tup q r) q1⟩
  · exact q1.elim
end
end Dl


namespace Dl
open PySem L2
/-! ### a head by facts: what the top has bound, from one run -/
abbrev AlM : Type := He.Al × Bool
def obsM (fa : List He.Fa) (fn : List He.FnD) (ck : List (PySem.W.Frag → Bool)) (K : PySem.W.Frag) : AlM := (He.obsE fa fn K, ck.all fun f => f K)
def SaysM (fa : List He.Fa) (fn : List He.FnD) (ck : List (PySem.W.Frag → Bool)) (K : PySem.W.Frag) : Prop := obsM fa fn ck K = (He.valE fn, true)
def obsMG (n : Nat) (fa : List He.Fa) (fn : List He.FnD) (ck : List (PySem.W.Frag → Bool)) (g : Addr → Option Obj) : AlM := obsM fa fn ck (He.frG g (List.range n))
def hookM (n : Nat) (fa : List He.Fa) (fn : List He.FnD) (ck : List (PySem.W.Frag → Bool)) : PySem.W.Hook where
  α := AlM
  obs := fun s => obsMG n fa fn ck s.heap.get?
  val := fun _ => (He.valE fn, true)
  says := fun _ h => ∃ K : PySem.W.Frag, K.In h ∧ SaysM fa fn ck K
  of := fun _ _ e => ⟨_, He.frG_in, e⟩
  keeps := fun _ _ _ ⟨K, hK, c⟩ k => ⟨K, PySem.W.Frag.In.keeps hK k, c⟩
theorem obsMG_eq {n : Nat} {fa : List He.Fa} {fn : List He.FnD} {ck : List (PySem.W.Frag → Bool)} {g : Addr → Option Obj} {s : Shared} (h : ∀ a, g a = s.heap.get? a) : obsMG n fa fn ck g = (hookM n fa fn ck).obs s := by
  have e : g = s.heap.get? := funext h
  rw [e] <;> rfl
section
variable {fa : List He.Fa} {fn : List He.FnD} {ck : List (PySem.W.Frag → Bool)} {K : PySem.W.Frag} {h : Heap} {mg : Str → Option Value}
theorem SaysM.e (c : SaysM fa fn ck K) : He.SaysE fa fn K := congrArg (fun z : AlM => z.1) c
theorem SaysM.fact (c : SaysM fa fn ck K) (i : Nat) {f : He.Fa} (hf : fa[i]? = some f) : f.ok K = true := c.e.fact i hf
theorem SaysM.chk (c : SaysM fa fn ck K) (i : Nat) {f : PySem.W.Frag → Bool} (hf : ck[i]? = some f) : f K = true :=
  List.all_eq_true.mp (show (ck.all fun f => f K) = true from congrArg (fun z : AlM => z.2) c) f (List.mem_of_getElem? hf)
theorem defT_he (X : K.In h) (G : h.Ns mainGlobals mg) (c : SaysM fa fn ck K) {x : Str} {st : Stmt} {ps : List Str} (i j k : Nat) (hd : fn[i]? = some ⟨(x, none), x, x, defArgs st, defBody st, defScope st⟩) (hg : fa[j]? = some (.glo x)) (hk : fa[k]? = some (.keep x))
    (b : ∀ (kV doc pm : Value) (an : Option Addr) (cdv ct : Value) (us : List Value), us.length = ps.length → bindArgs (PySem.W.fnOf x x (defArgs st) (defBody st) (defScope st) .none kV doc pm an cdv ct) ⟨us, []⟩ = pure (ps.zip us)) : DefT K mg x st ps := by
  obtain ⟨oc, od, osl, kV, doc, pm, an, cdv, ct, l, cc⟩ := c.e.def_ i hd
  exact ⟨He.ga K x, _, fun_mk l cc (He.keep_ok (c.fact k hk)), He.glo_ok X G (c.fact j hg), b kV doc pm an cdv ct⟩
end
/-! ### own exceptions -/
def oexB (K : PySem.W.Frag) (C : Addr) : Bool := match K.lookup C with
  | some ⟨.type "type", _, .cls cd, sl⟩ => (match cd.mro, sl.toList with
    | .ref C' :: bm, [_, _, _, _, some (.builtin n), _] => C' == C && (n == "ValueError.__new__" && (!cd.hasDel && (cd.hasDict && PySem.HandSPX.refsVE bm)))
    | _, _ => false)
  | _ => false
theorem oexB_ok {K : PySem.W.Frag} {C : Addr} (q : oexB K C = true) : ∃ nm q N bs bm sn sub ab col dd k0 k1 k2 k3 k5, K.lookup C = some (excClassObj nm q C N bs bm true sn sub ab col dd k0 k1 k2 k3 k5 "ValueError.__new__") ∧ PySem.HandSPX.refsVE bm = true := by
  unfold oexB at q
  split at q
  · rename_i dd cd sl ho
    split at q
    · rename_i C' bm k0 k1 k2 k3 n k5 hm hs
      simp only [Bool.and_eq_true, beq_iff_eq, Bool.not_eq_true'] at q
      obtain ⟨rfl, rfl, hdel, hdi, hr⟩ := q
      obtain ⟨nm, bs, mro, ns, qn, hd, sn, sub, ab, col, del⟩ := cd
      dsimp only at hm hdel hdi
      subst hm hdel hdi
      have hsl : sl = #[k0, k1, k2, k3, some (.builtin "ValueError.__new__"), k5] := by
        obtain ⟨l⟩ := sl
        simp only at hs
        rw [hs]
      subst hsl
      exact ⟨nm, qn, ns, bs, bm, sn, sub, ab, col, dd, k0, k1, k2, k3, k5, ho, hr⟩
    · cases q
  · cases q
def errB (c : String) (fs : List String) (K : PySem.W.Frag) : Bool :=
  let C := He.ga K (PySem.Str.ofString c)
  let fI := He.ma K C "__init__"
  He.eqO (PySem.W.nsIn K mainGlobals (PySem.Str.ofString c)) (some (some (.ref C))) && (oexB K C && (He.eqO (PySem.W.findIn K (.ref C) "__setattr__") (some (some (.builtin "object.__setattr__"))) && (decide (PySem.W.subIn K (.ref C) (.type "BaseException") = some true) && (decide (PySem.W.typeIn K (.ref C) = some (.type "type")) && (PySem.W.keepIn K (.ref C) && (fs.all (fun f => He.eqO (PySem.W.findIn K (.ref C) (PySem.Str.ofString f)) (some none)) &&
    (He.eqO (PySem.W.findIn K (.ref C) "__init__") (some (some (.ref fI))) && (decide (PySem.W.typeIn K (.ref fI) = some (.type "function")) && PySem.W.keepIn K (.ref fI)))))))))
def initBB (c : String) (K : PySem.W.Frag) : Bool :=
  let C := He.ga K (PySem.Str.ofString c)
  He.eqO (PySem.W.nsIn K mainGlobals (PySem.Str.ofString c)) (some (some (.ref C))) && (PySem.W.readsIn K C (.type "type") && (He.eqO (PySem.W.specialIn K (.ref C) "__getattribute__") (some (some (.builtin "type.__getattribute__"))) && (match PySem.W.findCls K (.ref C) (.type "type") "__init__" with | some (.val (.builtin n)) => n == "ValueError.__init__" | _ => false)))
section
variable {fa : List He.Fa} {fn : List He.FnD} {ck : List (PySem.W.Frag → Bool)} {K : PySem.W.Frag} {h : Heap} {mg : Str → Option Value}
theorem errT_he (X : K.In h) (G : h.Ns mainGlobals mg) (c : SaysM fa fn ck K) {cl : String} {q : Str} {st : Stmt} {ps : List Str} {fs : List String} (i j : Nat) (hd : fn[i]? = some ⟨(PySem.Str.ofString cl, some "__init__"), "__init__", q, defArgs st, defBody st, defScope st⟩) (hc : ck[j]? = some (errB cl fs))
    (b : ∀ (kV doc pm : Value) (an : Option Addr) (cdv ct : Value) (us : List Value), us.length = ps.length → bindArgs (PySem.W.fnOf "__init__" q (defArgs st) (defBody st) (defScope st) .none kV doc pm an cdv ct) ⟨us, []⟩ = pure (ps.zip us)) : ErrT K mg cl q st ps fs := by
  obtain ⟨oc, od, osl, kV, doc, pm, an, cdv, ct, l, cc⟩ := c.e.def_ i hd
  have e := c.chk j hc
  unfold errB at e
  simp only [Bool.and_eq_true] at e
  obtain ⟨e1, e2, e3, e4, e5, e6, e7, e8, e9, e10⟩ := e
  obtain ⟨nm, qq, N, bs, bm, sn, sub, ab, col, dd, k0, k1, k2, k3, k5, c1, c2⟩ := oexB_ok e2
  exact errT_mk X G (He.eqO_ok e1) c1 c2 (He.eqO_ok e3) (of_decide_eq_true e4) (of_decide_eq_true e5) e6 (fun f hf => He.eqO_ok (List.all_eq_true.mp e7 f hf)) (He.eqO_ok e8) (of_decide_eq_true e9) l cc e10 b
theorem initB_he (X : K.In h) (G : h.Ns mainGlobals mg) (c : SaysM fa fn ck K) {cl : String} (j : Nat) (hc : ck[j]? = some (initBB cl)) : InitB K mg cl := by
  have e := c.chk j hc
  unfold initBB at e
  simp only [Bool.and_eq_true] at e
  obtain ⟨e1, e2, e3, e4⟩ := e
  refine initB_mk X G (He.eqO_ok e1) e2 (He.eqO_ok e3) ?_
  split at e4
  · rename_i n hn
    rw [hn, beq_iff_eq.mp e4]
  · cases e4
end
/-! ### errors that are caught -/
def catB (B : String) (x : String × Bool) (K : PySem.W.Frag) : Bool :=
  let C := He.ga K (PySem.Str.ofString x.1)
  let CB := He.ga K (PySem.Str.ofString B)
  He.eqO (PySem.W.nsIn K mainGlobals (PySem.Str.ofString x.1)) (some (some (.ref C))) && (He.eqO (PySem.W.nsIn K mainGlobals (PySem.Str.ofString B)) (some (some (.ref CB))) && (decide (PySem.W.subIn K (.ref CB) (.type "BaseException") = some true) && (PySem.W.hasDictIn K CB && (decide (PySem.W.typeIn K (.ref CB) = some (.type "type")) && (decide (PySem.W.subIn K (.ref C) (.ref CB) = some x.2) && (!(decide (C = CB)) || x.2))))))
def essB (fs : List String) (x : String × Bool) (K : PySem.W.Frag) : Bool :=
  let C := He.ga K (PySem.Str.ofString x.1)
  He.eqO (PySem.W.nsIn K mainGlobals (PySem.Str.ofString x.1)) (some (some (.ref C))) && (He.eqO (PySem.W.findIn K (.ref C) "__getattribute__") (some (some (.builtin "BaseException.__getattribute__"))) && (He.eqO (PySem.W.findIn K (.ref C) "__getattr__") (some none) && (decide (PySem.W.subIn K (.ref C) (.type "BaseException") = some true) && (PySem.W.hasDictIn K C && (He.eqO (PySem.W.findIn K (.ref C) "__class__") (some (some (.builtin "object.__class__"))) && (He.eqO (PySem.W.specialIn K (.builtin "object.__class__") "__get__") (some (some (.builtin "getset_descriptor.__get__"))) && (decide (PySem.W.takesIn K (.builtin "object.__class__") = some true) && (decide (PySem.W.mroIn K C (.type "object") = some true) && fs.all (fun f => He.eqO (PySem.W.findIn K (.ref C) (PySem.Str.ofString f)) (some none))))))))))
theorem catT_all {K : PySem.W.Frag} {B : String} : ∀ {L : List (String × Bool)}, (L.all fun x => catB B x K) = true → CatT K B L
  | [], _ => catT_nil
  | (c, b) :: L, h => by
    rw [List.all_cons, Bool.and_eq_true] at h
    obtain ⟨h, r⟩ := h
    unfold catB at h
    simp only [Bool.and_eq_true] at h
    obtain ⟨e1, e2, e3, e4, e5, e6, e7⟩ := h
    refine catT_cons (He.eqO_ok e1) (He.eqO_ok e2) (of_decide_eq_true e3) e4 (of_decide_eq_true e5) (of_decide_eq_true e6) (fun z => ?_) (catT_all r)
    rw [decide_eq_true z] at e7
    exact e7
theorem errSs_all {K : PySem.W.Frag} {fs : List String} : ∀ {L : List (String × Bool)}, (L.all fun x => essB fs x K) = true → ErrSs K L fs
  | [], _ => errSs_nil
  | (c, b) :: L, h => by
    rw [List.all_cons, Bool.and_eq_true] at h
    obtain ⟨h, r⟩ := h
    unfold essB at h
    simp only [Bool.and_eq_true] at h
    obtain ⟨e1, e2, e3, e4, e5, e6, e7, e8, e9, e10⟩ := h
    exact errSs_cons (He.eqO_ok e1) ⟨He.eqO_ok e2, He.eqO_ok e3, of_decide_eq_true e4, e5, He.eqO_ok e6, He.eqO_ok e7, of_decide_eq_true e8, of_decide_eq_true e9⟩ (fun f hf => He.eqO_ok (List.all_eq_true.mp e10 f hf)) (errSs_all r)
section
variable {fa : List He.Fa} {fn : List He.FnD} {ck : List (PySem.W.Frag → Bool)} {K : PySem.W.Frag} {h : Heap} {mg : Str → Option Value}
theorem catT_he (c : SaysM fa fn ck K) {B : String} {L : List (String × Bool)} (j : Nat) (hc : ck[j]? = some (fun K => L.all fun x => catB B x K)) : CatT K B L := catT_all (c.chk j hc)
theorem errSs_he (c : SaysM fa fn ck K) {fs : List String} {L : List (String × Bool)} (j : Nat) (hc : ck[j]? = some (fun K => L.all fun x => essB fs x K)) : ErrSs K L fs := errSs_all (c.chk j hc)
theorem gT_he (X : K.In h) (G : h.Ns mainGlobals mg) (c : SaysM fa fn ck K) {B : String} (j : Nat) (hc : fa[j]? = some (.glo (PySem.Str.ofString B))) : mg (PySem.Str.ofString B) = some (.ref (kcl K B)) := He.glo_ok X G (c.fact j hc)
end
/-! a text at the top -/
def strB (x s : Str) : PySem.W.Frag → Bool := fun K => match PySem.W.nsIn K mainGlobals x with
  | some (some (.str z _)) => decide (z.cps.toList = s.cps.toList)
  | _ => false
theorem strT_of {K : PySem.W.Frag} {h : Heap} {mg : Str → Option Value} (X : K.In h) (G : h.Ns mainGlobals mg) {x s : Str} (c : strB x s K = true) : ∃ t, mg x = some (.str s t) := by
  unfold strB at c
  split at c
  · rename_i z t e
    have e2 : z = s := Str.ext' (Array.toList_inj.mp (of_decide_eq_true c))
    subst e2
    exact ⟨t, PySem.W.mg_of X G e⟩
  · cases c
/-! own errors and ValueError -/
def KitV (K : PySem.W.Frag) (B : String) (L : List (String × Bool)) : Prop := ∀ c b, L.lookup c = some b → PySem.W.kitOne K (.ref (kcl K c)) (.type B) = some b
def kitB1 (B : String) (x : String × Bool) (K : PySem.W.Frag) : Bool := decide (PySem.W.kitOne K (.ref (kcl K x.1)) (.type B) = some x.2)
theorem kitV_all {K : PySem.W.Frag} {B : String} : ∀ {L : List (String × Bool)}, (L.all fun x => kitB1 B x K) = true → KitV K B L
  | [], _ => fun c b h => by cases h
  | (c, b) :: L, h => fun c' b' e => by
    rw [List.all_cons, Bool.and_eq_true] at h
    rw [List.lookup_cons] at e
    cases q : c' == c with
    | true =>
      rw [q] at e
      cases e
      rw [beq_iff_eq.mp q]
      exact of_decide_eq_true h.1
    | false =>
      rw [q] at e
      exact kitV_all h.2 c' b' e
theorem kitV_he {fa : List He.Fa} {fn : List He.FnD} {ck : List (PySem.W.Frag → Bool)} {K : PySem.W.Frag} (c : SaysM fa fn ck K) {B : String} {L : List (String × Bool)} (j : Nat) (hc : ck[j]? = some (fun K => L.all fun x => kitB1 B x K)) : KitV K B L := kitV_all (c.chk j hc)
/-! a tuple of texts at the top -/
def strsB : List Str → List Value → Bool
  | [], [] => true
  | s :: ss, .str z _ :: vs => decide (z.cps.toList = s.cps.toList) && strsB ss vs
  | _, _ => false
theorem strsB_ok : ∀ {ss : List Str} {vs : List Value}, strsB ss vs = true → Vals (ss.map V.str) vs
  | [], [], _ => .nil
  | s :: ss, .str z t :: vs, h => by
    have h : (decide (z.cps.toList = s.cps.toList) && strsB ss vs) = true := h
    rw [Bool.and_eq_true] at h
    have e2 : z = s := Str.ext' (Array.toList_inj.mp (of_decide_eq_true h.1))
    subst e2
    exact .cons ⟨t, rfl⟩ (strsB_ok h.2)
def tupB (x : Str) (ss : List Str) : PySem.W.Frag → Bool := fun K => match PySem.W.nsIn K mainGlobals x with
  | some (some (.ref p)) => match K.lookup p with
    | some ⟨.type ty, _, .seq its _, _⟩ => decide (ty = "tuple") && (decide (its.size ≤ 1000) && strsB ss its.toList)
    | _ => false
  | _ => false
theorem tupT_of {K : PySem.W.Frag} {h : Heap} {mg : Str → Option Value} (X : K.In h) (G : h.Ns mainGlobals mg) {x : Str} {ss : List Str} (c : tupB x ss K = true) : ∃ (p : Addr) (o : Obj) (its : Array Value) (n : Nat), mg x = some (.ref p) ∧ K.lookup p = some o ∧ o.cls = .type "tuple" ∧ o.data = .seq its n ∧ its.size ≤ sizeLine ∧ Vals (ss.map V.str) its.toList := by
  unfold tupB at c
  split at c
  · rename_i p e
    split at c
    · rename_i ty dd its n sl e2
      rw [Bool.and_eq_true, Bool.and_eq_true] at c
      have h1 := of_decide_eq_true c.1
      subst h1
      exact ⟨p, _, its, n, PySem.W.mg_of X G e, e2, rfl, rfl, by have := of_decide_eq_true c.2.1; rw [show sizeLine = 16777216 from rfl]; omega, strsB_ok c.2.2⟩
    · cases c
  · cases c
theorem walk_DE {l : PySem.W.OpenLaw} {k : Nat} {q : Program} {loose : List Str} {XP : (Str → Option Value) → Heap → Prop} {YP : World → Heap → Prop} {d : DefRec} {x : Str}
    (hn : l.most = some 63) (hdf : d.params.defaults = []) (hr : Room k callerA)
    (F : ∀ (w : World) (mg : Str → Option Value) (fa : Addr) (h : Heap), YP w h → h.Ns mainGlobals mg → mg d.name = some (.ref fa) → ∃ (K : PySem.W.Frag) (fd : FuncData), K.In h ∧ (∀ (s : Shared) (u : Value), BindsTo s fd ⟨[u], []⟩ [(x, u)]) ∧
      ∀ base : Heap, K.In base → base.Ns mainGlobals mg → FnOk l.prog w K mg base (L2.CX l.prog w) k fa fd [x] (spOf K 1 (CLaw ClawT))) :
    PySem.W.WalkO q loose XP YP l.row.toRowW d [] (fun f vs => PySem.call f vs) := by
  refine Att.attach_call hn hdf fun w s₀ s₁ mg mb fa o pm cd doc a vs ns G Y ho hd hcd hmg hobj hints hlen hg => ?_
  obtain ⟨K, fd, KX, hb, hF⟩ := F w mg fa _ Y G.T.g hmg
  exact law_call KX G.T.g G.T.b G.T.builtins G.T.nolimit hg hobj hints (Nat.le_trans hlen (by decide)) hr hF hb (fun H hO hS => law_sp hlen hS) fun H e s' z => cx_false z
section
open PySem PySem.W PySem.Calls PyProof.Rows HandSHeadRun
noncomputable abbrev endK (r : OpenRow) (M : Nat) (w : World) (os : OsState) : Option SharedT := endF (stepQ (denQ tabQ) r.prog w) M r.prog w os
noncomputable abbrev lookK (r : OpenRow) (w : World) (s : SharedT) : Bool := looksF r.prog (boot_heap w.params) s.abs
noncomputable abbrev seenK (r : OpenRow) (q : Program) (loose : List PySem.Str) (s : SharedT) := seenQ q loose (importedModules r.prog.main.body) (fun s => xlAt q [] s && recOk r.toRowW.records s) s.abs
theorem runEq_of {r : OpenRow} {q : Program} {H : Hook} {ob : SharedT → H.α} {M : Nat} {loose : List PySem.Str} {w : World}
    (a : ∀ os, (endK r M w os).map (lookK r w) = some true) (b : ∀ os, (endK r M w os).map (seenK r q loose) = some (openGood q loose))
    (c : ∀ os, (endK r M w os).map ob = some (H.val w)) : RunEq r q H ob M loose w := by
  intro os
  obtain ⟨s, h1, h2⟩ := Option.map_eq_some_iff.mp (a os)
  have h3 := b os
  have h4 := c os
  unfold endK at h1 h3 h4
  rw [h1] at h3 h4 ⊢
  have h3 := Option.some.inj h3
  have h4 := Option.some.inj h4
  unfold lookK at h2
  unfold seenK at h3
  exact congrArg some (Prod.ext h2 (Prod.ext h3 h4))
end
theorem obsM_split {fa : List He.Fa} {fn : List He.FnD} {ck : List (PySem.W.Frag → Bool)} {K : PySem.W.Frag} (a : obsM fa [] ck K = ((true, []), true)) (b : obsM [] fn [] K = (He.valE fn, true)) : obsM fa fn ck K = (He.valE fn, true) := by
  have a1 : ((fa.all fun f => f.ok K) && ([] : List He.FnD).all fun d => (He.Fa.code d.at_ d.qual).ok K) = true := congrArg (fun z : AlM => z.1.1) a
  have a2 : (ck.all fun f => f K) = true := congrArg (fun z : AlM => z.2) a
  have b1 : (([] : List He.Fa).all (fun f => f.ok K) && fn.all fun d => (He.Fa.code d.at_ d.qual).ok K) = true := congrArg (fun z : AlM => z.1.1) b
  have b2 : (fn.map fun d => He.fnObs K d.at_) = fn.map He.FnD.val := congrArg (fun z : AlM => z.1.2) b
  have a1 := (Bool.and_eq_true_iff.mp a1).1
  have b1 := (Bool.and_eq_true_iff.mp b1).2
  show ((((fa.all fun f => f.ok K) && fn.all fun d => (He.Fa.code d.at_ d.qual).ok K), fn.map fun d => He.fnObs K d.at_), ck.all fun f => f K) = ((true, fn.map He.FnD.val), true)
  rw [a1, a2, b1, b2]
  rfl
section
open PySem PySem.W PySem.Calls PyProof.Rows HandSHeadRun
theorem runC_of {r : OpenRow} {n M : Nat} {fa : List He.Fa} {fn : List He.FnD} {ck : List (PySem.W.Frag → Bool)} {w : World}
    (a : ∀ os, (endK r M w os).map (fun s => obsMG n fa [] ck (getT s)) = some ((true, []), true)) (b : ∀ os, (endK r M w os).map (fun s => obsMG n [] fn [] (getT s)) = some (He.valE fn, true)) :
    ∀ os, (endK r M w os).map (fun s => obsMG n fa fn ck (getT s)) = some (He.valE fn, true) := by
  intro os
  obtain ⟨s, h1, h2⟩ := Option.map_eq_some_iff.mp (a os)
  have h3 := b os
  rw [h1] at h3 ⊢
  exact congrArg some (obsM_split h2 (Option.some.inj h3))
end
end Dl

namespace K42
open PySem L2 Dl
def top (i : Nat) : Stmt := PySem.Challenge.pw_layerask_k42_errors_of_tokens.main.body.getD i (.Pass ⟨0, 0, 0, 0⟩)
abbrev s_TextError_init : Stmt := inClass (top 2) 0
theorem sc_TextError_init : FnScope ["self", "line"] ["self", "line"] (defScope s_TextError_init) := ⟨rfl, rfl, rfl, by decide +kernel, rfl, by decide +kernel, by decide +kernel⟩
abbrev s_is_word : Stmt := top 11
theorem sc_is_word : FnScope ["text"] ["text"] (defScope s_is_word) := ⟨rfl, rfl, rfl, by decide +kernel, rfl, by decide +kernel, by decide +kernel⟩
abbrev s_run_end : Stmt := top 12
theorem sc_run_end : FnScope ["text", "at", "end"] ["text", "at"] (defScope s_run_end) := ⟨rfl, rfl, rfl, by decide +kernel, rfl, by decide +kernel, by decide +kernel⟩
abbrev s_run_token : Stmt := top 13
theorem sc_run_token : FnScope ["run", "line", "sign"] ["run", "line"] (defScope s_run_token) := ⟨rfl, rfl, rfl, by decide +kernel, rfl, by decide +kernel, by decide +kernel⟩
abbrev s_sign_at : Stmt := top 14
theorem sc_sign_at : FnScope ["text", "at", "sign"] ["text", "at"] (defScope s_sign_at) := ⟨rfl, rfl, rfl, by decide +kernel, rfl, by decide +kernel, by decide +kernel⟩
abbrev s_tokenize : Stmt := top 15
theorem sc_tokenize : FnScope ["text", "found", "line", "at", "end", "sign"] ["text"] (defScope s_tokenize) := ⟨rfl, rfl, rfl, by decide +kernel, rfl, by decide +kernel, by decide +kernel⟩
abbrev s__law_state : Stmt := top 17
theorem sc__law_state : FnScope ["_law_script", "_law_seed", "_law_cell"] ["_law_script"] (defScope s__law_state) := ⟨rfl, rfl, rfl, by decide +kernel, rfl, by decide +kernel, by decide +kernel⟩
abbrev s__law_draw : Stmt := top 18
theorem sc__law_draw : FnScope ["_law_state_here", "_law_many", "_law_cells", "_law_mixed", "_law_value"] ["_law_state_here", "_law_many"] (defScope s__law_draw) := ⟨rfl, rfl, rfl, by decide +kernel, rfl, by decide +kernel, by decide +kernel⟩
abbrev s__law_good : Stmt := top 19
theorem sc__law_good : FnScope ["_law_state_here", "_law_pieces"] ["_law_state_here"] (defScope s__law_good) := ⟨rfl, rfl, rfl, by decide +kernel, rfl, by decide +kernel, by decide +kernel⟩
abbrev s__law_digits : Stmt := top 20
theorem sc__law_digits : FnScope ["_law_state_here", "_law_many", "_law_text"] ["_law_state_here", "_law_many"] (defScope s__law_digits) := ⟨rfl, rfl, rfl, by decide +kernel, rfl, by decide +kernel, by decide +kernel⟩
abbrev s__law_bad : Stmt := top 21
theorem sc__law_bad : FnScope ["_law_state_here", "_law_kind", "_law_marks"] ["_law_state_here"] (defScope s__law_bad) := ⟨rfl, rfl, rfl, by decide +kernel, rfl, by decide +kernel, by decide +kernel⟩
abbrev s__law_lines : Stmt := top 22
theorem sc__law_lines : FnScope ["_law_state_here", "_law_text", "_law_k"] ["_law_state_here"] (defScope s__law_lines) := ⟨rfl, rfl, rfl, by decide +kernel, rfl, by decide +kernel, by decide +kernel⟩
abbrev s__law_outcome : Stmt := top 23
theorem sc__law_outcome : FnScope ["_law_text", "_law_actual", "e"] ["_law_text"] (defScope s__law_outcome) := ⟨rfl, rfl, rfl, by decide +kernel, rfl, by decide +kernel, by decide +kernel⟩
abbrev s_law : Stmt := top 24
theorem sc_law : FnScope ["_law_script", "_law_state_here", "_law_before", "_law_bad_here", "_law_behind", "_law_line", "_law_near", "_law_char"] ["_law_script"] (defScope s_law) := ⟨rfl, rfl, rfl, by decide +kernel, rfl, by decide +kernel, by decide +kernel⟩
structure Txt (K : PySem.W.Frag) (mg : Str → Option Value) : Prop where
  d_is_word : DefT K mg "is_word" s_is_word ["text"]
  d_run_end : DefT K mg "run_end" s_run_end ["text", "at"]
  d_run_token : DefT K mg "run_token" s_run_token ["run", "line"]
  d_sign_at : DefT K mg "sign_at" s_sign_at ["text", "at"]
  d_tokenize : DefT K mg "tokenize" s_tokenize ["text"]
  d__law_state : DefT K mg "_law_state" s__law_state ["_law_script"]
  d__law_draw : DefT K mg "_law_draw" s__law_draw ["_law_state_here", "_law_many"]
  d__law_good : DefT K mg "_law_good" s__law_good ["_law_state_here"]
  d__law_digits : DefT K mg "_law_digits" s__law_digits ["_law_state_here", "_law_many"]
  d__law_bad : DefT K mg "_law_bad" s__law_bad ["_law_state_here"]
  d__law_lines : DefT K mg "_law_lines" s__law_lines ["_law_state_here"]
  d__law_outcome : DefT K mg "_law_outcome" s__law_outcome ["_law_text"]
  d_law : DefT K mg "law" s_law ["_law_script"]
  k_LONGEST_NAME : ∃ t, mg "LONGEST_NAME" = some (.int 16 t)
  k_LONGEST_NUMBER : ∃ t, mg "LONGEST_NUMBER" = some (.int 10 t)
  n_ValueError : mg "ValueError" = none
  n_abs : mg "abs" = none
  n_bool : mg "bool" = none
  n_int : mg "int" = none
  n_isinstance : mg "isinstance" = none
  n_len : mg "len" = none
  n_list : mg "list" = none
  n_range : mg "range" = none
  k_DIGITS : ∃ t, mg "DIGITS" = some (.str (PySem.Str.ofString "0123456789") t)
  k_LETTERS : ∃ t, mg "LETTERS" = some (.str (PySem.Str.ofString "abcdefghijklmnopqrstuvwxyzABCDEFGHIJKLMNOPQRSTUVWXYZ") t)
  k_MORE_WORDS : ∃ (p : Addr) (o : Obj) (its : Array Value) (n : Nat), mg "MORE_WORDS" = some (.ref p) ∧ K.lookup p = some o ∧ o.cls = .type "tuple" ∧ o.data = .seq its n ∧ its.size ≤ sizeLine ∧ Vals ([PySem.Str.ofString "with", PySem.Str.ofString "and", PySem.Str.ofString "or", PySem.Str.ofString "not"].map V.str) its.toList
  k_SIGNS : ∃ (p : Addr) (o : Obj) (its : Array Value) (n : Nat), mg "SIGNS" = some (.ref p) ∧ K.lookup p = some o ∧ o.cls = .type "tuple" ∧ o.data = .seq its n ∧ its.size ≤ sizeLine ∧ Vals ([PySem.Str.ofString "==", PySem.Str.ofString "(", PySem.Str.ofString ")", PySem.Str.ofString "[", PySem.Str.ofString "]", PySem.Str.ofString ",", PySem.Str.ofString "=", PySem.Str.ofString "<", PySem.Str.ofString ":", PySem.Str.ofString "+", PySem.Str.ofString "-", PySem.Str.ofString "*", PySem.Str.ofString "^"].map V.str) its.toList
  k_WORDS : ∃ (p : Addr) (o : Obj) (its : Array Value) (n : Nat), mg "WORDS" = some (.ref p) ∧ K.lookup p = some o ∧ o.cls = .type "tuple" ∧ o.data = .seq its n ∧ its.size ≤ sizeLine ∧ Vals ([PySem.Str.ofString "field", PySem.Str.ofString "input", PySem.Str.ofString "function", PySem.Str.ofString "let", PySem.Str.ofString "output", PySem.Str.ofString "if", PySem.Str.ofString "then", PySem.Str.ofString "else", PySem.Str.ofString "sum", PySem.Str.ofString "product", PySem.Str.ofString "each", PySem.Str.ofString "repeat"].map V.str) its.toList
  e_TextError : ErrT K mg "TextError" "TextError.__init__" s_TextError_init ["self", "line"] ["line"]
  i_TextError : InitB K mg "LayeraskError"
  v_ValueError : KitV K "ValueError" [("TextError", true)]
  g_LayeraskError : mg "LayeraskError" = some (.ref (kcl K "LayeraskError"))
  x_LayeraskError : CatT K "LayeraskError" [("TextError", true)]
  g_TextError : mg "TextError" = some (.ref (kcl K "TextError"))
  x_TextError : CatT K "TextError" [("TextError", true)]
  s_TextError : ErrSs K [("TextError", true)] ["line"]
def nm0 : List PySem.Str := ["__name__", "LayeraskError", "TextError", "WORDS", "MORE_WORDS", "SIGNS", "LETTERS", "DIGITS", "LONGEST_NAME", "LONGEST_NUMBER", "is_word", "run_end", "run_token", "sign_at", "tokenize", "_law_state", "_law_draw", "_law_good", "_law_digits", "_law_bad", "_law_lines", "_law_outcome"]
def fa0 : List He.Fa := [.glo "is_word",
  .keep "is_word",
  .glo "run_end",
  .keep "run_end",
  .glo "run_token",
  .keep "run_token",
  .glo "sign_at",
  .keep "sign_at",
  .glo "tokenize",
  .keep "tokenize",
  .glo "_law_state",
  .keep "_law_state",
  .glo "_law_draw",
  .keep "_law_draw",
  .glo "_law_good",
  .keep "_law_good",
  .glo "_law_digits",
  .keep "_law_digits",
  .glo "_law_bad",
  .keep "_law_bad"]
def fa1 : List He.Fa := [.glo "_law_lines",
  .keep "_law_lines",
  .glo "_law_outcome",
  .keep "_law_outcome",
  .glo "law",
  .keep "law",
  .int "LONGEST_NAME" 16,
  .int "LONGEST_NUMBER" 10,
  .free "ValueError",
  .free "abs",
  .free "bool",
  .free "int",
  .free "isinstance",
  .free "len",
  .free "list",
  .free "range",
  .glo (PySem.Str.ofString "LayeraskError"),
  .glo (PySem.Str.ofString "TextError")]
def fn0 : List He.FnD := [⟨("is_word", none), "is_word", "is_word", defArgs s_is_word, defBody s_is_word, defScope s_is_word⟩,
  ⟨("run_end", none), "run_end", "run_end", defArgs s_run_end, defBody s_run_end, defScope s_run_end⟩,
  ⟨("run_token", none), "run_token", "run_token", defArgs s_run_token, defBody s_run_token, defScope s_run_token⟩,
  ⟨("sign_at", none), "sign_at", "sign_at", defArgs s_sign_at, defBody s_sign_at, defScope s_sign_at⟩,
  ⟨("tokenize", none), "tokenize", "tokenize", defArgs s_tokenize, defBody s_tokenize, defScope s_tokenize⟩,
  ⟨("_law_state", none), "_law_state", "_law_state", defArgs s__law_state, defBody s__law_state, defScope s__law_state⟩,
  ⟨("_law_draw", none), "_law_draw", "_law_draw", defArgs s__law_draw, defBody s__law_draw, defScope s__law_draw⟩,
  ⟨("_law_good", none), "_law_good", "_law_good", defArgs s__law_good, defBody s__law_good, defScope s__law_good⟩,
  ⟨("_law_digits", none), "_law_digits", "_law_digits", defArgs s__law_digits, defBody s__law_digits, defScope s__law_digits⟩,
  ⟨("_law_bad", none), "_law_bad", "_law_bad", defArgs s__law_bad, defBody s__law_bad, defScope s__law_bad⟩,
  ⟨("_law_lines", none), "_law_lines", "_law_lines", defArgs s__law_lines, defBody s__law_lines, defScope s__law_lines⟩,
  ⟨("_law_outcome", none), "_law_outcome", "_law_outcome", defArgs s__law_outcome, defBody s__law_outcome, defScope s__law_outcome⟩,
  ⟨("law", none), "law", "law", defArgs s_law, defBody s_law, defScope s_law⟩,
  ⟨((PySem.Str.ofString "TextError"), some "__init__"), "__init__", "TextError.__init__", defArgs s_TextError_init, defBody s_TextError_init, defScope s_TextError_init⟩]
def ck0 : List (PySem.W.Frag → Bool) := [strB "DIGITS" (PySem.Str.ofString "0123456789"),
  strB "LETTERS" (PySem.Str.ofString "abcdefghijklmnopqrstuvwxyzABCDEFGHIJKLMNOPQRSTUVWXYZ"),
  tupB "MORE_WORDS" [PySem.Str.ofString "with", PySem.Str.ofString "and", PySem.Str.ofString "or", PySem.Str.ofString "not"],
  tupB "SIGNS" [PySem.Str.ofString "==", PySem.Str.ofString "(", PySem.Str.ofString ")", PySem.Str.ofString "[", PySem.Str.ofString "]", PySem.Str.ofString ",", PySem.Str.ofString "=", PySem.Str.ofString "<", PySem.Str.ofString ":", PySem.Str.ofString "+", PySem.Str.ofString "-", PySem.Str.ofString "*", PySem.Str.ofString "^"],
  tupB "WORDS" [PySem.Str.ofString "field", PySem.Str.ofString "input", PySem.Str.ofString "function", PySem.Str.ofString "let", PySem.Str.ofString "output", PySem.Str.ofString "if", PySem.Str.ofString "then", PySem.Str.ofString "else", PySem.Str.ofString "sum", PySem.Str.ofString "product", PySem.Str.ofString "each", PySem.Str.ofString "repeat"],
  errB "TextError" ["line"],
  initBB "LayeraskError",
  fun K => ([("TextError", true)] : List (String × Bool)).all fun x => kitB1 "ValueError" x K,
  fun K => ([("TextError", true)] : List (String × Bool)).all fun x => catB "LayeraskError" x K,
  fun K => ([("TextError", true)] : List (String × Bool)).all fun x => catB "TextError" x K,
  fun K => ([("TextError", true)] : List (String × Bool)).all fun x => essB ["line"] x K]
def names : List PySem.Str := nm0
def fa : List He.Fa := fa0 ++ fa1
def fn : List He.FnD := fn0
def ck : List (PySem.W.Frag → Bool) := ck0
abbrev R : PySem.W.OpenRow := PySem.W.OpenLaw.row PySem.Challenge.rw_layerask_k42_errors_of_tokens
abbrev hk : PySem.W.Hook := hookM 1500 fa fn ck
def ob (s : PySem.W.SharedT) : AlM := obsMG 1500 fa fn ck (HandSHeadRun.getT s)
theorem ob_eq (s : PySem.W.SharedT) : ob s = hk.obs s.abs := obsMG_eq (HandSHeadRun.getT_eq s)
theorem runA (w : World) : ∀ os, (endK R 20000 w os).map (lookK R w) = some true := by
  intro os
  kernel_rfl
theorem runB (w : World) : ∀ os, (endK R 20000 w os).map (seenK R (PySem.W.view R.prog [24]) names) = some (PySem.W.openGood (PySem.W.view R.prog [24]) names) := by
  intro os
  kernel_rfl
theorem runC1 (w : World) : ∀ os, (endK R 20000 w os).map (fun s => obsMG 1500 fa [] ck (HandSHeadRun.getT s)) = some ((true, []), true) := by
  intro os
  kernel_rfl
theorem runC2 (w : World) : ∀ os, (endK R 20000 w os).map (fun s => obsMG 1500 [] fn [] (HandSHeadRun.getT s)) = some (He.valE fn, true) := by
  intro os
  kernel_rfl
theorem run (w : World) : HandSHeadRun.RunEq R (PySem.W.view R.prog [24]) hk ob 20000 names w := runEq_of (runA w) (runB w) (runC_of (runC1 w) (runC2 w))
theorem he_txt {K : PySem.W.Frag} {h : Heap} {mg : Str → Option Value} (X : K.In h) (G : h.Ns mainGlobals mg) (c : SaysM fa fn ck K) : Txt K mg := {
  d_is_word := defT_he X G c 0 0 1 rfl rfl rfl (fun _ _ _ _ _ _ us hl => match us, hl with | [_], _ => rfl)
  d_run_end := defT_he X G c 1 2 3 rfl rfl rfl (fun _ _ _ _ _ _ us hl => match us, hl with | [_, _], _ => rfl)
  d_run_token := defT_he X G c 2 4 5 rfl rfl rfl (fun _ _ _ _ _ _ us hl => match us, hl with | [_, _], _ => rfl)
  d_sign_at := defT_he X G c 3 6 7 rfl rfl rfl (fun _ _ _ _ _ _ us hl => match us, hl with | [_, _], _ => rfl)
  d_tokenize := defT_he X G c 4 8 9 rfl rfl rfl (fun _ _ _ _ _ _ us hl => match us, hl with | [_], _ => rfl)
  d__law_state := defT_he X G c 5 10 11 rfl rfl rfl (fun _ _ _ _ _ _ us hl => match us, hl with | [_], _ => rfl)
  d__law_draw := defT_he X G c 6 12 13 rfl rfl rfl (fun _ _ _ _ _ _ us hl => match us, hl with | [_, _], _ => rfl)
  d__law_good := defT_he X G c 7 14 15 rfl rfl rfl (fun _ _ _ _ _ _ us hl => match us, hl with | [_], _ => rfl)
  d__law_digits := defT_he X G c 8 16 17 rfl rfl rfl (fun _ _ _ _ _ _ us hl => match us, hl with | [_, _], _ => rfl)
  d__law_bad := defT_he X G c 9 18 19 rfl rfl rfl (fun _ _ _ _ _ _ us hl => match us, hl with | [_], _ => rfl)
  d__law_lines := defT_he X G c 10 20 21 rfl rfl rfl (fun _ _ _ _ _ _ us hl => match us, hl with | [_], _ => rfl)
  d__law_outcome := defT_he X G c 11 22 23 rfl rfl rfl (fun _ _ _ _ _ _ us hl => match us, hl with | [_], _ => rfl)
  d_law := defT_he X G c 12 24 25 rfl rfl rfl (fun _ _ _ _ _ _ us hl => match us, hl with | [_], _ => rfl)
  k_LONGEST_NAME := He.int_ok X G (c.fact 26 rfl)
  k_LONGEST_NUMBER := He.int_ok X G (c.fact 27 rfl)
  n_ValueError := He.free_ok X G (c.fact 28 rfl)
  n_abs := He.free_ok X G (c.fact 29 rfl)
  n_bool := He.free_ok X G (c.fact 30 rfl)
  n_int := He.free_ok X G (c.fact 31 rfl)
  n_isinstance := He.free_ok X G (c.fact 32 rfl)
  n_len := He.free_ok X G (c.fact 33 rfl)
  n_list := He.free_ok X G (c.fact 34 rfl)
  n_range := He.free_ok X G (c.fact 35 rfl)
  k_DIGITS := strT_of X G (c.chk 0 rfl)
  k_LETTERS := strT_of X G (c.chk 1 rfl)
  k_MORE_WORDS := tupT_of X G (c.chk 2 rfl)
  k_SIGNS := tupT_of X G (c.chk 3 rfl)
  k_WORDS := tupT_of X G (c.chk 4 rfl)
  e_TextError := errT_he X G c 13 5 rfl rfl (fun _ _ _ _ _ _ us hl => match us, hl with | [_, _], _ => rfl)
  i_TextError := initB_he X G c 6 rfl
  v_ValueError := kitV_he c 7 rfl
  g_LayeraskError := gT_he X G c 36 rfl
  x_LayeraskError := catT_he c 8 rfl
  g_TextError := gT_he X G c 37 rfl
  x_TextError := catT_he c 9 rfl
  s_TextError := errSs_he c 10 rfl
  }
end K42
section
open PySem PySem.W PySem.Calls PyProof.Rows
theorem K42.pre (hc : PySem.W.WalkO (PySem.W.view (PySem.W.OpenLaw.row PySem.Challenge.rw_layerask_k42_errors_of_tokens).prog [24]) K42.names (PySem.W.XL (PySem.W.view (PySem.W.OpenLaw.row PySem.Challenge.rw_layerask_k42_errors_of_tokens).prog [24]) []) K42.hk.says (PySem.W.OpenRow.toRowW (PySem.W.OpenLaw.row PySem.Challenge.rw_layerask_k42_errors_of_tokens)) (HandSHeadRun.topDef (PySem.W.OpenLaw.row PySem.Challenge.rw_layerask_k42_errors_of_tokens).prog 24) [] (fun f vs => PySem.call f vs)) : PySem.Challenge.rw_layerask_k42_errors_of_tokens.Holds := by
  w_on; o_law
  refine HandSHeadRun.head_any (r := PySem.W.OpenLaw.row PySem.Challenge.rw_layerask_k42_errors_of_tokens) (q := PySem.W.view (PySem.W.OpenLaw.row PySem.Challenge.rw_layerask_k42_errors_of_tokens).prog [24]) (H := K42.hk) (ob := K42.ob) (M := 20000) (loose := K42.names) (d := HandSHeadRun.topDef (PySem.W.OpenLaw.row PySem.Challenge.rw_layerask_k42_errors_of_tokens).prog 24) (kwd := []) K42.ob_eq
    (by kernel_rfl) (fun s => by kernel_rfl) K42.run (by kernel_rfl) (by kernel_rfl) (by kernel_rfl) (by rfl) (by first | assumption | decide +kernel) (by decide +kernel) ⟨rfl, rfl, rfl, rfl, rfl, by decide +kernel⟩ ?hw hc
  case hw => w_witness2
end
namespace Dl
open PySem L2
/-! ### texts -/
theorem repAll_strs {K : PySem.W.Frag} {w : Wd} : ∀ ys : List Str, RepAll K w (ys.map D.str) (ys.map V.str)
  | [] => rfl
  | y :: ys => ⟨.str y, _, rfl, rfl, repAll_strs ys⟩
theorem repAll_strs_eq {K : PySem.W.Frag} {w : Wd} : ∀ {ys : List Str} {vs : List V}, RepAll K w (ys.map D.str) vs → vs = ys.map V.str
  | [], _, h => h
  | y :: ys, _, h => by
    obtain ⟨v, r, rfl, a, b⟩ := h
    rw [show v = V.str y from a, repAll_strs_eq b]
    rfl
/-- a method of a text with one argument -/
def dMethS (c : Str → D → MM → (D → MM → Prop) → Prop) (o r : DE) : DE := fun ρ m Φ Ψ => o ρ m (fun x m1 => match x with
  | .str a => r ρ m1 (fun y m2 => c a y m2 Φ) Ψ
  | _ => False) Ψ
section
variable {X : Cx} {E : WX} {o e : Expr} {Wo We : DE}
end
def oSplit : Str → D → MM → (D → MM → Prop) → Prop := fun a y m Φ => match y with
  | .str b => (b.length == 0) = false ∧ a.length + 2 ≤ LIM ∧ Φ (.lst ((Txt.split a b).map D.str)) m
  | _ => False
def oJoin : Str → D → MM → (D → MM → Prop) → Prop := fun a y m Φ => ∃ ys : List Str, asL m y = some (ys.map D.str) ∧ (ys.map (·.length)).sum + ys.length * a.length ≤ LIM ∧ Φ (.str (Txt.join a ys)) m
/-! str of an int, int of a text -/
def cStr : DCB := fun ds m Φ => match ds with
  | [.int i] => i.natAbs.log2 < 1920 ∧ Φ (.str (PySem.Str.ofString (toString i))) m
  | _ => False
def cIntS : DCB := fun ds m Φ => match ds with
  | [.str a] => ∃ n, PySem.intText? a = some n ∧ a.length ≤ 640 ∧ Φ (.int n) m
  | _ => False
theorem cbl_intS {K : PySem.W.Frag} : CbL K (fun xs H Q => ∃ a n, xs = [V.str a] ∧ PySem.intText? a = some n ∧ a.length ≤ 640 ∧ Q (.int n) H) cIntS := fun w m H ds vs Q Φ h r vl q => by
  unfold cIntS at q
  split at q
  · rename_i a
    obtain ⟨v, rfl, rv⟩ := rep1 r
    obtain ⟨n, e, z, q⟩ := q
    exact ⟨a, n, by rw [show v = V.str a from rv], e, z, vl.int h q⟩
  · exact q.elim
/-! the characters of a text -/
def sgD (c : Nat) : D := .str ⟨#[c]⟩
def diStr (e : DE) : DI := fun ρ m Φ Ψ => e ρ m (fun d m1 => match d with
  | .str x => Φ (x.cps.toList.map sgD) m1
  | _ => False) Ψ
theorem wlk_str {K : PySem.W.Frag} {w : Wd} {x : Str} : Wlk K w (Its x) (x.cps.toList.map sgD) where
  go := fun w1 m H i d l h e => by
    rw [List.getElem?_map, Array.getElem?_toList] at e
    cases q : x.cps[i]? with
    | none => rw [q] at e; cases e
    | some c => exact (Array.getElem?_eq_some_iff.mp q).1
  stop := fun w1 m H l h => by rw [List.length_map, Array.length_toList]; exact Nat.le_refl _
  yld := fun w1 m H i d v H' l h e y => by
    obtain ⟨rfl, c, e1, rfl⟩ := y
    rw [List.getElem?_map, Array.getElem?_toList, e1] at e
    injection e with e
    subst e
    exact ⟨w1, .refl w1, h, rfl⟩
theorem ji_str {X : Cx} {E : WX} {tg a : Expr} {Wa : DE} (h : JE X E a Wa) : JI X E tg a (diStr Wa) := PI.imp (pi_str h) fun σ H R ⟨w, ρ, m, Ψ, Φ, a, n, h⟩ => by
  refine ⟨w, ρ, m, Ψ, _, a, fun d m1 w1 H1 v l1 h1 r1 q1 => ?_, h⟩
  split at q1
  · rename_i x
    exact ⟨x, r1, n _ m1 w1 H1 _ l1 h1 wlk_str q1⟩
  · exact q1.elim
/-! a character in a text -/
def oInS (neg : Bool) : DO := fun x y m Φ => ∃ (c : Nat) (z : Str), x = sgD c ∧ y = .str z ∧ Φ (.bl (if neg then !decide (c ∈ z.cps.toList) else decide (c ∈ z.cps.toList))) m
theorem opl_inS {K : PySem.W.Frag} : OpL K (fun x y H Q => ∃ (c : Nat) (z : Str), x = .str ⟨#[c]⟩ ∧ y = .str z ∧ Q (.bl (decide (c ∈ z.cps.toList))) H) (oInS false) := fun w m H x y u v Q Φ h r1 r2 vl q => by
  obtain ⟨c, z, rfl, rfl, q⟩ := q
  exact ⟨c, z, r1, r2, vl (.bl _) m w H _ (.refl w) h rfl q⟩
theorem opl_notInS {K : PySem.W.Frag} : OpL K (fun x y H Q => ∃ (c : Nat) (z : Str), x = .str ⟨#[c]⟩ ∧ y = .str z ∧ Q (.bl (!decide (c ∈ z.cps.toList))) H) (oInS true) := fun w m H x y u v Q Φ h r1 r2 vl q => by
  obtain ⟨c, z, rfl, rfl, q⟩ := q
  exact ⟨c, z, r1, r2, vl (.bl _) m w H _ (.refl w) h rfl q⟩
/-! a constant of the module that is a text -/
theorem je_globS {X : Cx} {E : WX} {x : Str} {s : Str} {pos : Pos} (hg : Gl X x) (hm : ∃ t, X.mg x = some (.str s t)) (hd : (x == ("__debug__" : Str)) = false := by decide) : JE X E (.Name x pos) (dC (.str s)) := by
  obtain ⟨t, hm⟩ := hm
  exact je_of (v := .str s) (pe_glob hg hm ⟨t, rfl⟩ hd) fun _ => rfl

local macro_rules | `(tactic| walk_at "dl") => `(tactic| try simp only [dSeq, dSet, dRaise_one, dRaise_two, dTryAs, dXf, dIsE, List.lookup_cons, List.lookup_nil, beq_self_eq_true, Bool.false_eq_true, if_false, dOp, dUn, dVar, dC, dCB, dCons, dNil, dRet, dRetN, dIf, dB, dAnd, dOr, dNot, dDrop, dNext, dMethL, dSetIx, dAndV, dOrV, dNotV, dBlV, dIfE, dLst, dTup, dLstM, dCall, dChain, dAsg, dgName, dgTup, bindD, asT, dFor, diList, diRng1, diRng2, diEnumerate, diZip, diReversed, dLc, dLcM, dYes, wipeD, dAug, dSl, dSlT, dpN, dpS,
  oI, oI0, oB0, oAdd, oNeg, oEq, oNe, oIx, oIsN, oNotN, isNon, oShl, oApp, oPop, oPopAt, cLen, cInt, cAbs, cSum, cMax2, cMin2, cList, cIsi, tyD, asL, asF, asK, moL_lst, ModC, DivC,
  List.getElem?_cons_zero, List.getElem?_cons_succ, List.set_cons_zero, List.set_cons_succ, List.getElem?_nil, List.length_cons, List.length_nil, List.length_map, Option.map_some, Option.bind_some, Option.isSome_some, if_true, true_and, and_true, MM.push])
local macro_rules | `(tactic| walk_at "dx") => `(tactic| try simp only [eq_self_iff_true, okE_int, okE_bl, okE_non, eqD_int, eqD_bl, kq_NoneType_int, kq_NoneType_bool, kq_NoneType_list, kq_NoneType_tuple, kq_NoneType_str, kq_bool_int, kq_bool_bool, kq_bool_list, kq_bool_tuple, kq_bool_str, kq_int_int, kq_int_bool, kq_int_list, kq_int_tuple, kq_int_str, kq_str_int, kq_str_bool, kq_str_list, kq_str_tuple, kq_str_str, kq_list_int, kq_list_bool, kq_list_list, kq_list_tuple, kq_list_str, kq_tuple_int, kq_tuple_bool, kq_tuple_list, kq_tuple_tuple, kq_tuple_str, dMethS, oSplit, oJoin, cStr, cIntS, diStr, oInS, oInL, oIsB, oNotB, oEqH, oNeH, oShr, oExt, cMaxL, cMinL, cAny, cAll, cTuple, cListM, dRevL, dFld, dSetF, dAugF, dMeth, dMake, moI_ins, app_len, set_app, List.contains_cons, List.contains_nil, Bool.true_or,  Bool.true_eq_false, decide_true, not_true_eq_false, not_false_eq_true, Bool.not_true, Bool.not_false, decide_eq_true_eq, Bool.not_eq_true', decide_eq_false_iff_not, dSeq, dSet, dRaise_one, dRaise_two, dTryAs, dXf, dIsE, List.lookup_cons, List.lookup_nil, beq_self_eq_true, Bool.false_eq_true, if_false, dOp, dUn, dVar, dC, dCB, dCons, dNil, dRet, dRetN, dIf, dB, dAnd, dOr, dNot, dDrop, dNext, dMethL, dSetIx, dAndV, dOrV, dNotV, dBlV, dIfE, dLst, dTup, dLstM, dCall, dChain, dAsg, dgName, dgTup, bindD, asT, dFor, diList, diRng1, diRng2, diEnumerate, diZip, diReversed, dLc, dLcM, dYes, wipeD, dAug, dSl, dSlT, dpN, dpS,
  oI, oI0, oB0, oAdd, oNeg, oEq, oNe, oIx, oIsN, oNotN, isNon, oShl, oApp, oPop, oPopAt, cLen, cInt, cAbs, cSum, cMax2, cMin2, cList, cIsi, tyD, asL, asF, asK, moL_lst, ModC, DivC,
  List.getElem?_cons_zero, List.getElem?_cons_succ, List.set_cons_zero, List.set_cons_succ, List.getElem?_nil, List.length_cons, List.length_nil, List.length_map, Option.map_some, Option.bind_some, Option.isSome_some, if_true, true_and, and_true, MM.push])
local macro_rules | `(tactic| walk_at "lim") => `(tactic| repeat (first | (refine ⟨by decide, ?_⟩) | (refine ⟨by (try simp only [List.length_map, List.length_dropLast, List.length_append, List.length_cons, List.length_nil, List.length_replicate, List.length_take, List.length_drop, List.length_range]); (show _ ≤ 16777216); omega, ?_⟩)))

set_option hygiene false in
local macro_rules | `(tactic| walk_at "stp") => `(tactic| (refine dSeq_k fun k1 h1 => ?_; walk_at "dx"))
set_option hygiene false in
local macro_rules | `(tactic| walk_at "nxt") => `(tactic| (subst h1; (try dsimp only); refine dSeq_k fun k1 h1 => ?_; walk_at "dx"))
set_option hygiene false in
local macro_rules | `(tactic| walk_at "lst") => `(tactic| (subst h1; (try dsimp only); walk_at "dx"))
set_option hygiene false in
local macro_rules | `(tactic| walk_at "nxt2") => `(tactic| (subst h2; (try dsimp only); refine dSeq_k fun k2 h2 => ?_; walk_at "dx"))
set_option hygiene false in
local macro_rules | `(tactic| walk_at "stp2") => `(tactic| (refine dSeq_k fun k2 h2 => ?_; walk_at "dx"))
set_option hygiene false in
local macro_rules | `(tactic| walk_at "lst2") => `(tactic| (subst h2; (try dsimp only); walk_at "dx"))
set_option hygiene false in
local macro_rules | `(tactic| walk_at "nx0") => `(tactic| (subst h1; (try dsimp only); refine dSeq_k fun k1 h1 => ?_))

/-! ### the text of a conversation -/
def tS (l : List Nat) : D := .str (SX.S l)
theorem s_nl : PySem.Str.ofString "\n" = SX.S [10] := by decide
theorem s_sp : PySem.Str.ofString " " = SX.S [32] := by decide
theorem s_no : PySem.Str.ofString "" = SX.S [] := by decide
theorem s_0 : PySem.Str.ofString "0" = SX.S [48] := by decide
def numZ (z : Int) : List Nat := TL.numL z.toNat
theorem okE_S {n : Nat} {l : List Nat} (h : ∀ c ∈ l, c < 1114112) : okE n (tS l) = true := by
  have e : okE n (tS l) = PyData.strOk (SX.S l) := by cases n <;> rfl
  rw [e]
  unfold PyData.strOk
  rw [Array.all_eq_true']
  intro c hc
  have hc : c ∈ l := by
    have z : c ∈ (SX.S l).cps.toList := Array.mem_def.mp hc
    exact z
  exact decide_eq_true (h c hc)
theorem eqD_S {a b : List Nat} : eqD (tS a) (tS b) = decide (a = b) := by
  show (SX.S a == SX.S b) = _
  exact SX.S_beq_eq
theorem numZ_range {z : Int} : ∀ c ∈ numZ z, 48 ≤ c ∧ c ≤ 57 := fun c hc => by
  have := TL.numL_digits z.toNat c hc
  omega
theorem numZ_ne {z : Int} : numZ z ≠ [] := TL.numL_ne _
theorem numZ_len {z : Int} (h : 0 ≤ z ∧ z < 10000000000) : (numZ z).length ≤ 10 := TL.numL_len (by decide) (by
  have e : (10 : Nat) ^ 10 = 10000000000 := by decide
  rw [e]; omega)
/-- the codes of a line lie in a small range -/
def Low (l : List Nat) : Prop := ∀ c ∈ l, 32 ≤ c ∧ c < 123
theorem Low.ok {n : Nat} {l : List Nat} (h : Low l) : okE n (tS l) = true := okE_S fun c hc => by have := h c hc; omega
theorem Low.no {l : List Nat} (h : Low l) : 10 ∉ l := fun hm => by have := h 10 hm; omega
/-! ### the contracts -/
theorem log2_lt {z : Int} (h : 0 ≤ z ∧ z < 10000000000) : z.natAbs.log2 < 1920 := by
  have : z.natAbs < 10000000000 := by omega
  have h2 : z.natAbs.log2 ≤ 34 := by
    by_cases h0 : z.natAbs = 0
    · rw [h0]; decide
    · have : z.natAbs.log2 < 35 := (Nat.log2_lt h0).mpr (by omega)
      omega
  omega
theorem numL_head : ∀ n : Nat, 1 ≤ n → ∀ r, TL.numL n ≠ 48 :: r := fun n => by
  induction n using Nat.strongRecOn with
  | _ n ih =>
    intro h r e
    by_cases h10 : n < 10
    · rw [TL.numL_lt h10] at e
      injection e with e1 e2
      omega
    · rw [TL.numL_step (by omega)] at e
      cases q : TL.numL (n / 10) with
      | nil => exact TL.numL_ne _ q
      | cons c t =>
        rw [q] at e
        injection e with e1 e2
        exact ih (n / 10) (by omega) (by omega) t (by rw [q, e1])
/-! ### a text many times -/
def repS (l : List Nat) (n : Nat) : List Nat := (List.replicate n l).flatten
theorem fold_reps (l : List Nat) : ∀ (n : Nat) (acc : List Nat), (List.replicate n l.toArray).foldl (fun a b => a ++ b) acc.toArray = (acc ++ repS l n).toArray
  | 0, acc => by
    unfold repS
    simp
  | n + 1, acc => by
    rw [List.replicate_succ, List.foldl_cons]
    have e : acc.toArray ++ l.toArray = (acc ++ l).toArray := by simp
    rw [e, fold_reps l n (acc ++ l)]
    unfold repS
    rw [List.replicate_succ, List.flatten_cons, List.append_assoc]
theorem repS_len (l : List Nat) : ∀ n, (repS l n).length = n * l.length
  | 0 => by rw [Nat.zero_mul]; rfl
  | n + 1 => by
    unfold repS
    rw [List.replicate_succ, List.flatten_cons, List.length_append, Nat.succ_mul]
    have := repS_len l n
    unfold repS at this
    omega
def rMulS : R2 := fun x y H Q => ∃ (l : List Nat) (n : Nat), x = .str (SX.S l) ∧ y = .int (n : Nat) ∧ l.length * n ≤ 1000000 ∧ n ≤ 1000000 ∧ Q (.str (SX.S (repS l n))) H
theorem op_mulS {X : Cx} : OpR X (binaryOp .Mult) rMulS := by
  intro pins s σ H x y v u Q I rx ry h
  obtain ⟨l, n, rfl, rfl, hz, hn, q⟩ := h
  obtain ⟨t, rfl⟩ := rx
  obtain ⟨t', rfl⟩ := ry
  refine P.mul_str ?_ ?_ ?_ ?_
  · rw [decide_eq_false (by omega), decide_eq_false (by omega)]
    rfl
  · intro h1 h2 h3
    have hn1 : (1 : Int) ≤ (n : Nat) := by omega
    have hl : (SX.S l).length = l.length := SX.S_len _
    rw [hl] at h3
    have h4 : ((n : Nat) : Int) ≤ 1000000 := by omega
    have h5 : (((2 : Int) ^ 63 - 1) / (n : Nat)) * (n : Nat) < (l.length : Int) * (n : Nat) := Int.mul_lt_mul_of_pos_right h3 (by omega)
    have h6 : ((2 : Int) ^ 63 - 1) - (n : Nat) < (((2 : Int) ^ 63 - 1) / (n : Nat)) * (n : Nat) := by
      have e := Int.emod_add_mul_ediv ((2 : Int) ^ 63 - 1) (n : Nat)
      have f := Int.emod_lt_of_pos ((2 : Int) ^ 63 - 1) (show (0 : Int) < (n : Nat) by omega)
      rw [Int.mul_comm] at e
      omega
    have h7 : (l.length : Int) * (n : Nat) ≤ 1000000 := by
      rw [← Int.natCast_mul]
      omega
    omega
  · intro h1 h2
    have hl : (SX.S l).length = l.length := SX.S_len _
    rw [hl, Int.toNat_natCast]
    unfold Builtin.Str.tooLong
    exact decide_eq_false (by rw [show sizeLine = 16777216 from rfl]; omega)
  · have e : (List.replicate (((n : Nat) : Int)).toNat (SX.S l).cps).foldl (· ++ ·) #[] = (repS l n).toArray := by
      rw [Int.toNat_natCast]
      exact fold_reps l n []
    rw [e]
    have len : (SX.S (repS l n)).length ≤ sizeLine := by
      rw [SX.S_len, repS_len, show sizeLine = 16777216 from rfl, Nat.mul_comm]
      omega
    split
    · rename_i h1
      have e0 : n = 0 := by omega
      subst e0
      exact ⟨len, .str (SX.S (repS l 0)), H, I.tok _, ⟨_, rfl⟩, q⟩
    · split
      · rename_i h1 h2
        have e2 : repS l n = l := by
          rw [Bool.or_eq_true] at h2
          rcases h2 with h2 | h2
          · have : n = 1 := by
              have := eq_of_beq h2
              omega
            subst this
            show l ++ [] = l
            exact List.append_nil l
          · have h2 : (SX.S l).length = 0 := eq_of_beq h2
            rw [SX.S_len] at h2
            have : l = [] := List.length_eq_zero_iff.mp h2
            subst this
            exact List.length_eq_zero_iff.mp (by rw [repS_len]; exact Nat.mul_zero n)
        rw [e2] at q
        exact ⟨.str (SX.S l), H, I, ⟨t, rfl⟩, q⟩
      · exact ⟨len, .str (SX.S (repS l n)), H, I.tok _, ⟨_, rfl⟩, q⟩
def oMulS : DO := fun x y m Φ => ∃ (l : List Nat) (n : Nat), x = tS l ∧ y = .int (n : Nat) ∧ l.length * n ≤ 1000000 ∧ n ≤ 1000000 ∧ Φ (tS (repS l n)) m
theorem opl_mulS {K : PySem.W.Frag} : OpL K rMulS oMulS := fun w m H x y u v Q Φ h r1 r2 vl q => by
  obtain ⟨l, n, rfl, rfl, z, z2, q⟩ := q
  exact ⟨l, n, r1, r2, z, z2, vl (.str _) m w H _ (.refl w) h rfl q⟩
/-! ### a part of a text -/
section
variable {X : Cx} {E : WX} {a b : Expr} {Wa Wb : DE} {pos : Pos}
def dSlS (a : DE) (lo hi : DPt) : DE := fun ρ m Φ Ψ => a ρ m (fun d m1 => lo ρ m1 (fun l m2 => hi ρ m2 (fun u m3 => ∃ z : List Nat, d = tS z ∧ z.length ≤ LIM ∧ Φ (.str (Txt.slice (SX.S z) l u)) m3) Ψ) Ψ) Ψ
theorem je_slS {lo hi : Option Expr} {Wl Wh : DPt} {p2 : Pos} (ha : JE X E a Wa) (hl : JO X E lo Wl) (hh : JO X E hi Wh) : JE X E (.Subscript a (.Slice lo hi none p2) pos) (dSlS Wa Wl Wh) := PE.imp (pe_slice C8.sl_txt ha hl hh) fun σ H Q ⟨w, ρ, m, Ψ, Φ, a, vl, h⟩ => by
  refine ⟨w, ρ, m, Ψ, _, a, fun d m1 w1 H1 v l1 h1 r1 q1 => ?_, h⟩
  refine ⟨w1, ρ, m1, Ψ, _, a.to l1 h1, fun o m2 w2 H2 l2 h2 q2 => ?_, q1⟩
  refine ⟨w2, ρ, m2, Ψ, _, a.to (l1.trans l2) h2, fun u m3 w3 H3 l3 h3 q3 => ?_, q2⟩
  obtain ⟨z, rfl, hz, q3⟩ := q3
  have r1 : v = .str (SX.S z) := r1
  subst r1
  exact ⟨SX.S z, rfl, by rw [SX.S_len]; exact lim_sz hz, vl (.str _) m3 w3 H3 _ ((l1.trans l2).trans l3) h3 rfl q3⟩
/-! ### a constant of the module that is a tuple of texts -/
theorem je_globT {x : Str} {ss : List Str} {pos : Pos} (hg : Gl X x) (hm : ∃ (p : Addr) (o : Obj) (its : Array Value) (n : Nat), X.mg x = some (.ref p) ∧ X.K.lookup p = some o ∧ o.cls = .type "tuple" ∧ o.data = .seq its n ∧ its.size ≤ sizeLine ∧ Vals (ss.map V.str) its.toList) (hd : (x == ("__debug__" : Str)) = false := by decide) : JE X E (.Name x pos) (dC (.rot (ss.map D.str))) := by
  obtain ⟨p, o, its, n, hm, hk⟩ := hm
  exact je_of (v := .ref p) (pe_glob hg hm rfl hd) fun w => ⟨p, ss.map V.str, rfl, .inr ⟨o, its, n, hk⟩, repAll_strs ss⟩
/-! ### a text in a tuple of texts -/
def oInC (neg : Bool) : DO := fun x y m Φ => ∃ (z : List Nat) (ss : List (List Nat)), x = tS z ∧ y = .rot (ss.map tS) ∧ Φ (.bl (if neg then !decide (z ∈ ss) else decide (z ∈ ss))) m
theorem inV_strs {z : List Nat} : ∀ ss : List (List Nat), inV (.str (SX.S z)) ((ss.map SX.S).map V.str) = decide (z ∈ ss)
  | [] => rfl
  | s :: ss => by
    show (eqV (.str (SX.S s)) (.str (SX.S z)) || inV (.str (SX.S z)) ((ss.map SX.S).map V.str)) = _
    rw [inV_strs ss, show eqV (.str (SX.S s)) (.str (SX.S z)) = (SX.S s == SX.S z) from rfl, SX.S_beq_eq]
    by_cases e : s = z
    · subst e
      rw [decide_eq_true rfl, Bool.true_or, decide_eq_true List.mem_cons_self]
    · rw [decide_eq_false e, Bool.false_or]
      exact decide_eq_decide.mpr ⟨fun h => List.mem_cons_of_mem _ h, fun h => (List.mem_cons.mp h).resolve_left fun h => e h.symm⟩
theorem flat_strs : ∀ ss : List Str, (ss.map V.str).all flatV = true
  | [] => rfl
  | s :: ss => by
    rw [List.map_cons, List.all_cons, flat_strs ss]
    rfl
theorem opl_inC {K : PySem.W.Frag} : OpL K (rIn K false) (oInC false) := fun w m H x y u v Q Φ h r1 r2 vl q => by
  obtain ⟨z, ss, rfl, rfl, q⟩ := q
  obtain ⟨a, xs, rfl, hq, rr⟩ := r2
  have e : (ss.map tS) = (ss.map SX.S).map D.str := by rw [List.map_map]; rfl
  rw [e] at rr
  rw [repAll_strs_eq rr] at hq
  have r1 : u = .str (SX.S z) := r1
  subst r1
  exact ⟨a, _, rfl, .inr (sqt_mono h.ext hq), rfl, flat_strs _, by rw [inV_strs]; exact vl.bl h q⟩
end
section
variable {X : Cx} {a dd : Addr} {oe : Obj} {pn : List (Addr × Obj)} {c : String} {o : Expr} {W : DE} {pos : Pos}
theorem je_isEV {B : String} {L : List (String × Bool)} {p p2 : Pos} (T : ErrS X.K (kcl X.K c)) (TL : KitV X.K B L) (hz : Zc (.ref (kcl X.K c)) (some dd) oe) (hf : ∃ vs, oe.data = .fields vs) (hgi : Gl X "isinstance") (hmi : X.mg "isinstance" = none)
    (hg : Gl X (PySem.Str.ofString B)) (hm : X.mg (PySem.Str.ofString B) = none) (hv : bootBuiltins (PySem.Str.ofString B) = some (.type B)) (ho : JE (X.suite a ((a, oe) :: pn)) EF o W)
    (hn : PySem.Str.ofString B ≠ "__name__" := by decide) (hdb : (PySem.Str.ofString B == ("__debug__" : Str)) = false := by decide)
    (he : starEach [o, .Name (PySem.Str.ofString B) p2] X.env = (false, eval o X.env) :: starEach [.Name (PySem.Str.ofString B) p2] X.env := by rfl)
    (he2 : starEach [.Name (PySem.Str.ofString B) p2] X.env = (false, eval (.Name (PySem.Str.ofString B) p2) X.env) :: starEach [] X.env := by rfl)
    (hpl : (backTo pos (starEach [.Name (PySem.Str.ofString B) p2] X.env)).any (·.1) = false := by rfl) :
    JE (X.suite a ((a, oe) :: pn)) EF (.Call (.Name "isinstance" p) [o, .Name (PySem.Str.ofString B) p2] [] pos) (dIsE a dd L B c W) :=
  PE.imp (pe_callB (call_isE2 T hz hf) hgi hmi bt_isinstance (pa_cons ho (pa_cons (pe_bltn (v := .ty B) (u := .type B) hg hm hv rfl hn hdb) pa_nil he2) he) (by decide) (by decide) he hpl) fun σ H Q ⟨w, ρ, m, Ψ, Φ, at_, vl, q⟩ => by
  refine ⟨w, ρ, m, Ψ, _, at_, fun x m1 w1 H1 v l1 h1 r1 q1 => ?_, q⟩
  cases x with
  | exc a' d' c' fs =>
    obtain ⟨rfl, rfl, b, hb, q1⟩ := q1
    obtain ⟨rfl, xs, hx, rf⟩ := r1
    exact ⟨_, .type B, b, xs, rfl, fun u h => h, h1.ext _ _ hx, TL c b hb, vl (.bl b) m1 w1 H1 _ l1 h1 rfl q1⟩
  | _ => exact False.elim q1
end
/-! ### a call of a def without arguments -/
/-! ### tokens -/
def wordsL : List (List Nat) := [[102, 105, 101, 108, 100], [105, 110, 112, 117, 116], [102, 117, 110, 99, 116, 105, 111, 110], [108, 101, 116], [111, 117, 116, 112, 117, 116], [105, 102], [116, 104, 101, 110], [101, 108, 115, 101], [115, 117, 109], [112, 114, 111, 100, 117, 99, 116], [101, 97, 99, 104], [114, 101, 112, 101, 97, 116]]
def moreL : List (List Nat) := [[119, 105, 116, 104], [97, 110, 100], [111, 114], [110, 111, 116]]
def signsL : List (List Nat) := [[61, 61], [40], [41], [91], [93], [44], [61], [60], [58], [43], [45], [42], [94]]
def letL : List Nat := [97, 98, 99, 100, 101, 102, 103, 104, 105, 106, 107, 108, 109, 110, 111, 112, 113, 114, 115, 116, 117, 118, 119, 120, 121, 122, 65, 66, 67, 68, 69, 70, 71, 72, 73, 74, 75, 76, 77, 78, 79, 80, 81, 82, 83, 84, 85, 86, 87, 88, 89, 90]
def digL : List Nat := [48, 49, 50, 51, 52, 53, 54, 55, 56, 57]
theorem words_eq : ([PySem.Str.ofString "field", PySem.Str.ofString "input", PySem.Str.ofString "function", PySem.Str.ofString "let", PySem.Str.ofString "output", PySem.Str.ofString "if", PySem.Str.ofString "then", PySem.Str.ofString "else", PySem.Str.ofString "sum", PySem.Str.ofString "product", PySem.Str.ofString "each", PySem.Str.ofString "repeat"].map D.str) = wordsL.map tS := (congrArg (List.map D.str) (show ([PySem.Str.ofString "field", PySem.Str.ofString "input", PySem.Str.ofString "function", PySem.Str.ofString "let", PySem.Str.ofString "output", PySem.Str.ofString "if", PySem.Str.ofString "then", PySem.Str.ofString "else", PySem.Str.ofString "sum", PySem.Str.ofString "product", PySem.Str.ofString "each", PySem.Str.ofString "repeat"] : List Str) = wordsL.map SX.S by decide +kernel)).trans (by rw [List.map_map]; rfl)
theorem more_eq : ([PySem.Str.ofString "with", PySem.Str.ofString "and", PySem.Str.ofString "or", PySem.Str.ofString "not"].map D.str) = moreL.map tS := (congrArg (List.map D.str) (show ([PySem.Str.ofString "with", PySem.Str.ofString "and", PySem.Str.ofString "or", PySem.Str.ofString "not"] : List Str) = moreL.map SX.S by decide +kernel)).trans (by rw [List.map_map]; rfl)
theorem signs_eq : ([PySem.Str.ofString "==", PySem.Str.ofString "(", PySem.Str.ofString ")", PySem.Str.ofString "[", PySem.Str.ofString "]", PySem.Str.ofString ",", PySem.Str.ofString "=", PySem.Str.ofString "<", PySem.Str.ofString ":", PySem.Str.ofString "+", PySem.Str.ofString "-", PySem.Str.ofString "*", PySem.Str.ofString "^"].map D.str) = signsL.map tS := (congrArg (List.map D.str) (show ([PySem.Str.ofString "==", PySem.Str.ofString "(", PySem.Str.ofString ")", PySem.Str.ofString "[", PySem.Str.ofString "]", PySem.Str.ofString ",", PySem.Str.ofString "=", PySem.Str.ofString "<", PySem.Str.ofString ":", PySem.Str.ofString "+", PySem.Str.ofString "-", PySem.Str.ofString "*", PySem.Str.ofString "^"] : List Str) = signsL.map SX.S by decide +kernel)).trans (by rw [List.map_map]; rfl)
theorem let_eq : PySem.Str.ofString "abcdefghijklmnopqrstuvwxyzABCDEFGHIJKLMNOPQRSTUVWXYZ" = SX.S letL := by decide +kernel
theorem dig_eq : PySem.Str.ofString "0123456789" = SX.S digL := by decide +kernel
def isL (c : Nat) : Bool := (decide (97 ≤ c) && decide (c ≤ 122)) || (decide (65 ≤ c) && decide (c ≤ 90))
def isD (c : Nat) : Bool := decide (48 ≤ c) && decide (c ≤ 57)
def isR (c : Nat) : Bool := isL c || (isD c || decide (c = 95))
theorem small_dec {P : Nat → Bool} {l : List Nat} (hl : l.all (fun c => decide (c < 128)) = true) (h : (List.range 128).all (fun c => decide (decide (c ∈ l) = P c)) = true) (hp : ∀ c, 128 ≤ c → P c = false) (c : Nat) : decide (c ∈ l) = P c := by
  by_cases hc : c < 128
  · exact of_decide_eq_true (List.all_eq_true.mp h c (List.mem_range.mpr hc))
  · rw [hp c (by omega)]
    refine decide_eq_false fun hm => ?_
    have := of_decide_eq_true (List.all_eq_true.mp hl c hm)
    omega
theorem in_let (c : Nat) : decide (c ∈ letL) = isL c := small_dec (by decide) (by decide +kernel) (fun c h => by
  unfold isL
  rw [decide_eq_false (p := c ≤ 122) (by omega), decide_eq_false (p := c ≤ 90) (by omega), Bool.and_false, Bool.and_false]
  rfl) c
theorem in_dig (c : Nat) : decide (c ∈ digL) = isD c := small_dec (by decide) (by decide +kernel) (fun c h => by
  unfold isD
  rw [decide_eq_false (p := c ≤ 57) (by omega), Bool.and_false]) c
theorem in_run (c : Nat) : decide (c ∈ letL ++ digL ++ [95]) = isR c := by
  unfold isR
  rw [← in_let, ← in_dig]
  simp only [List.mem_append, List.mem_singleton]
  by_cases h1 : c ∈ letL <;> by_cases h2 : c ∈ digL <;> by_cases h3 : c = 95 <;> simp [h1, h2, h3]
def wordQ (z : List Nat) : Bool := decide (z ∈ wordsL) || decide (z ∈ moreL)
def tokD (k : String) (v : D) (line : Int) : D := .tup [.str (PySem.Str.ofString k), v, .int line]
def runTok (run : List Nat) (line : Int) : Option D :=
  if isL (run.headD 0) = true then if run.length > 16 then none else some (tokD (if wordQ run = true then "word" else "name") (tS run) line)
  else if run.length > 10 ∨ (run.length > 1 ∧ run.headD 0 = 48) then none else if run.all isD = true then some (tokD "number" (.int (NumText.digitsVal run : Nat)) line) else none
def signF (l : List Nat) : List Nat := ((signsL.find? fun s => decide (l.take s.length = s)).getD [])
def consX (t : D) : Sum Int (List D) → Sum Int (List D)
  | .inl e => .inl e
  | .inr ts => .inr (t :: ts)
def lexN : Nat → List Nat → Int → Sum Int (List D)
  | 0, _, line => .inl line
  | _ + 1, [], line => .inr [tokD "end" (tS []) line]
  | n + 1, c :: r, line => if c = 10 then lexN n r (line + 1) else if c = 32 then lexN n r line else if c = 35 then lexN n (r.dropWhile fun c => decide (c ≠ 10)) line
    else if isR c = true then match runTok ((c :: r).takeWhile isR) line with
      | none => .inl line
      | some t => consX t (lexN n ((c :: r).dropWhile isR) line)
    else if signF (c :: r) = [] then .inl line else consX (tokD "sign" (tS (signF (c :: r))) line) (lexN n ((c :: r).drop (signF (c :: r)).length) line)
theorem dropW_len {p : Nat → Bool} : ∀ l : List Nat, (l.dropWhile p).length ≤ l.length
  | [] => Nat.le_refl _
  | c :: r => by
    rw [List.dropWhile_cons]
    split
    · have := dropW_len (p := p) r
      rw [List.length_cons]
      omega
    · exact Nat.le_refl _
theorem lexN_fuel : ∀ (n k : Nat) (l : List Nat) (line : Int), l.length < n → l.length < k → lexN n l line = lexN k l line
  | 0, _, _, _, h, _ => absurd h (Nat.not_lt_zero _)
  | _ + 1, 0, _, _, _, h => absurd h (Nat.not_lt_zero _)
  | n + 1, k + 1, [], line, _, _ => rfl
  | n + 1, k + 1, c :: r, line, h1, h2 => by
    rw [List.length_cons] at h1 h2
    unfold lexN
    have e1 := lexN_fuel n k r (line + 1) (by omega) (by omega)
    have e2 := lexN_fuel n k r line (by omega) (by omega)
    have d3 := dropW_len (p := fun c => decide (c ≠ 10)) r
    have e3 := lexN_fuel n k (r.dropWhile fun c => decide (c ≠ 10)) line (by omega) (by omega)
    rw [e1, e2, e3]
    split
    · rfl
    split
    · rfl
    split
    · rfl
    split
    · rename_i hR
      have d4 := dropW_len (p := isR) r
      have e4 : (c :: r).dropWhile isR = r.dropWhile isR := by rw [List.dropWhile_cons, if_pos hR]
      rw [e4, lexN_fuel n k (r.dropWhile isR) line (by omega) (by omega)]
    · split
      · rfl
      · rename_i hs
        have hl : 0 < (signF (c :: r)).length := List.length_pos_iff.mpr hs
        have e5 : ((c :: r).drop (signF (c :: r)).length).length ≤ r.length := by rw [List.length_drop, List.length_cons]; omega
        rw [lexN_fuel n k ((c :: r).drop (signF (c :: r)).length) line (by omega) (by omega)]
def Lx (l : List Nat) (line : Int) : Sum Int (List D) := lexN (l.length + 1) l line
theorem Lx_of {n : Nat} {l : List Nat} {line : Int} (h : l.length < n) : lexN n l line = Lx l line := lexN_fuel _ _ _ _ h (Nat.lt_succ_self _)
theorem Lx_nil {line : Int} : Lx [] line = .inr [tokD "end" (tS []) line] := rfl
theorem Lx_nl {r : List Nat} {line : Int} : Lx (10 :: r) line = Lx r (line + 1) := rfl
theorem Lx_sp {r : List Nat} {line : Int} : Lx (32 :: r) line = Lx r line := rfl
theorem Lx_hash {r : List Nat} {line : Int} : Lx (35 :: r) line = Lx (r.dropWhile fun c => decide (c ≠ 10)) line := by
  show lexN (r.length + 1) (r.dropWhile fun c => decide (c ≠ 10)) line = _
  exact Lx_of (by have := dropW_len (p := fun c => decide (c ≠ 10)) r; omega)
theorem isR_no {c : Nat} (h : isR c = true) : c ≠ 10 ∧ c ≠ 32 ∧ c ≠ 35 := by
  refine ⟨?_, ?_, ?_⟩ <;> (intro e; subst e; exact absurd h (by decide))
theorem Lx_run {c : Nat} {r : List Nat} {line : Int} (h : isR c = true) : Lx (c :: r) line = match runTok ((c :: r).takeWhile isR) line with
      | none => .inl line
      | some t => consX t (Lx ((c :: r).dropWhile isR) line) := by
  obtain ⟨h1, h2, h3⟩ := isR_no h
  have d4 := dropW_len (p := isR) r
  have e4 : (c :: r).dropWhile isR = r.dropWhile isR := by rw [List.dropWhile_cons, if_pos h]
  unfold Lx
  rw [List.length_cons]
  rw [show lexN (r.length + 1 + 1) (c :: r) line = _ by unfold lexN; rfl, if_neg h1, if_neg h2, if_neg h3, if_pos h, e4, Lx_of (n := r.length + 1) (by omega)]
  rfl
theorem Lx_sign {c : Nat} {r : List Nat} {line : Int} (h1 : c ≠ 10) (h2 : c ≠ 32) (h3 : c ≠ 35) (h : isR c = false) : Lx (c :: r) line = if signF (c :: r) = [] then .inl line else consX (tokD "sign" (tS (signF (c :: r))) line) (Lx ((c :: r).drop (signF (c :: r)).length) line) := by
  unfold Lx
  rw [List.length_cons]
  rw [show lexN (r.length + 1 + 1) (c :: r) line = _ by unfold lexN; rfl, if_neg h1, if_neg h2, if_neg h3, if_neg (by rw [h]; decide)]
  split
  · rfl
  · rename_i hs
    have hl : 0 < (signF (c :: r)).length := List.length_pos_iff.mpr hs
    have e5 : ((c :: r).drop (signF (c :: r)).length).length ≤ r.length := by rw [List.length_drop, List.length_cons]; omega
    rw [Lx_of (n := r.length + 1) (by omega)]
    rfl
theorem s_us : PySem.Str.ofString "_" = SX.S [95] := by decide
theorem s_hs : PySem.Str.ofString "#" = SX.S [35] := by decide
theorem slice_two {z : List Nat} {i j : Nat} (h : i ≤ z.length) : Txt.slice (SX.S z) (some (i : Nat)) (some (j : Nat)) = SX.S ((z.drop i).take (j - i)) := by
  rw [← C8.cutS_slice]
  unfold cutS
  rw [SX.S_len, HT.sIx_nat, HT.sIx_nat, Nat.min_eq_left h]
  show SX.S ((z.drop i).take (min j z.length - i)) = _
  refine congrArg SX.S ?_
  by_cases hj : j ≤ z.length
  · rw [Nat.min_eq_left hj]
  · rw [Nat.min_eq_right (by omega), List.take_of_length_le (by rw [List.length_drop]; omega), List.take_of_length_le (by rw [List.length_drop]; omega)]
def C_is_word : DC := fun ds m Φ _ => ∃ z : List Nat, ds = [tS z] ∧ Φ (.bl (wordQ z)) m
def C_run_end : DC := fun ds m Φ _ => ∃ (z : List Nat) (at_ : Nat), ds = [tS z, .int (at_ : Nat)] ∧ at_ ≤ z.length ∧ z.length ≤ 1000000 ∧ Φ (.int ((at_ + ((z.drop at_).takeWhile isR).length : Nat) : Int)) m
def C_run_token : DC := fun ds m Φ Ψ => ∃ (z : List Nat) (line : Int), ds = [tS z, .int line] ∧ z ≠ [] ∧ z.length ≤ 1000000 ∧ (∀ c ∈ z, c < 1114112) ∧ (∀ t, runTok z line = some t → Φ t m) ∧ (runTok z line = none → Ψ "TextError" [("line", .int line)] m)
def C_sign_at : DC := fun ds m Φ _ => ∃ (z : List Nat) (at_ : Nat), ds = [tS z, .int (at_ : Nat)] ∧ at_ ≤ z.length ∧ z.length ≤ 1000000 ∧ (∀ c ∈ z, c < 1114112) ∧ Φ (tS (signF (z.drop at_))) m
def C_tokenize : DC := fun ds m Φ Ψ => ∃ z : List Nat, ds = [tS z] ∧ z.length ≤ 1000000 ∧ (∀ c ∈ z, c < 1114112) ∧ (∀ ts, Lx z 1 = .inr ts → Φ (.lst ts) m) ∧ (∀ line : Int, Lx z 1 = .inl line → Ψ "TextError" [("line", .int line)] m)
def W_is_word : DS := dRet (dOrV (dOp (oInC false) (dVar 0) ((dC (.rot ([PySem.Str.ofString "field", PySem.Str.ofString "input", PySem.Str.ofString "function", PySem.Str.ofString "let", PySem.Str.ofString "output", PySem.Str.ofString "if", PySem.Str.ofString "then", PySem.Str.ofString "else", PySem.Str.ofString "sum", PySem.Str.ofString "product", PySem.Str.ofString "each", PySem.Str.ofString "repeat"].map D.str))))) (dOp (oInC false) (dVar 0) ((dC (.rot ([PySem.Str.ofString "with", PySem.Str.ofString "and", PySem.Str.ofString "or", PySem.Str.ofString "not"].map D.str))))))
def W_run_end : DS := dSeq (dSet 2 (dVar 1)) (dSeq (dWhile (dAnd (dB (dOp oLt (dVar 2) (dCB cLen (dCons (dVar 0) (dNil))))) (dB (dOp (oInS false) (dOp oIx (dVar 0) (dVar 2)) (dOp oAdd (dOp oAdd ((dC (.str (PySem.Str.ofString "abcdefghijklmnopqrstuvwxyzABCDEFGHIJKLMNOPQRSTUVWXYZ")))) ((dC (.str (PySem.Str.ofString "0123456789"))))) (dC (.str (PySem.Str.ofString "_"))))))) (dSet 2 (dOp oAdd (dVar 2) (dC (.int 1))))) (dRet (dVar 2)))
def W_run_token : DS := dSeq (dIf (dB (dOp (oInS false) (dOp oIx (dVar 0) (dC (.int 0))) ((dC (.str (PySem.Str.ofString "abcdefghijklmnopqrstuvwxyzABCDEFGHIJKLMNOPQRSTUVWXYZ")))))) (dSeq (dIf (dB (dOp oGt (dCB cLen (dCons (dVar 0) (dNil))) ((dC (.int 16))))) (dRaise "TextError" ["line"] (dCons (dVar 1) (dNil))) (dNext)) (dRet (dTup (dCons (dIfE (dB (dCall 1 C_is_word (dCons (dVar 0) (dNil)))) (dC (.str (PySem.Str.ofString "word"))) (dC (.str (PySem.Str.ofString "name")))) (dCons (dVar 0) (dCons (dVar 1) (dNil))))))) (dNext)) (dSeq (dIf (dOr (dB (dOp oGt (dCB cLen (dCons (dVar 0) (dNil))) ((dC (.int 10))))) (dAnd (dB (dOp oGt (dCB cLen (dCons (dVar 0) (dNil))) (dC (.int 1)))) (dB (dOp oEq (dOp oIx (dVar 0) (dC (.int 0))) (dC (.str (PySem.Str.ofString "0"))))))) (dRaise "TextError" ["line"] (dCons (dVar 1) (dNil))) (dNext)) (dSeq (dFor (diStr (dVar 0)) (dgName 2) (dIf (dB (dOp (oInS true) (dVar 2) ((dC (.str (PySem.Str.ofString "0123456789")))))) (dRaise "TextError" ["line"] (dCons (dVar 1) (dNil))) (dNext))) (dRet (dTup (dCons (dC (.str (PySem.Str.ofString "number"))) (dCons (dCB cIntS (dCons (dVar 0) (dNil))) (dCons (dVar 1) (dNil))))))))
def W_sign_at : DS := dSeq (dFor (diTupI ((dC (.rot ([PySem.Str.ofString "==", PySem.Str.ofString "(", PySem.Str.ofString ")", PySem.Str.ofString "[", PySem.Str.ofString "]", PySem.Str.ofString ",", PySem.Str.ofString "=", PySem.Str.ofString "<", PySem.Str.ofString ":", PySem.Str.ofString "+", PySem.Str.ofString "-", PySem.Str.ofString "*", PySem.Str.ofString "^"].map D.str))))) (dgName 2) (dIf (dB (dOp oEq (dSlS (dVar 0) (dpS (dVar 1)) (dpS (dOp oAdd (dVar 1) (dCB cLen (dCons (dVar 2) (dNil)))))) (dVar 2))) (dRet (dVar 2)) (dNext))) (dRet (dC (.str (PySem.Str.ofString ""))))
def W_tokenize : DS := dSeq (dSet 1 (dLstM (dNil))) (dSeq (dSet 2 (dC (.int 1))) (dSeq (dSet 3 (dC (.int 0))) (dSeq (dWhile (dB (dOp oLt (dVar 3) (dCB cLen (dCons (dVar 0) (dNil))))) (dIf (dB (dOp oEq (dOp oIx (dVar 0) (dVar 3)) (dC (.str (PySem.Str.ofString "\n"))))) (dSeq (dSet 2 (dOp oAdd (dVar 2) (dC (.int 1)))) (dSet 3 (dOp oAdd (dVar 3) (dC (.int 1))))) (dIf (dB (dOp oEq (dOp oIx (dVar 0) (dVar 3)) (dC (.str (PySem.Str.ofString " "))))) (dSet 3 (dOp oAdd (dVar 3) (dC (.int 1)))) (dIf (dB (dOp oEq (dOp oIx (dVar 0) (dVar 3)) (dC (.str (PySem.Str.ofString "#"))))) (dWhile (dAnd (dB (dOp oLt (dVar 3) (dCB cLen (dCons (dVar 0) (dNil))))) (dB (dOp oNe (dOp oIx (dVar 0) (dVar 3)) (dC (.str (PySem.Str.ofString "\n")))))) (dSet 3 (dOp oAdd (dVar 3) (dC (.int 1))))) (dIf (dB (dOp oGt (dCall 2 C_run_end (dCons (dVar 0) (dCons (dVar 3) (dNil)))) (dVar 3))) (dSeq (dSet 4 (dCall 2 C_run_end (dCons (dVar 0) (dCons (dVar 3) (dNil))))) (dSeq (dDrop (dMethL oApp (dVar 1) (dCons (dCall 2 C_run_token (dCons (dSlS (dVar 0) (dpS (dVar 3)) (dpS (dVar 4))) (dCons (dVar 2) (dNil)))) (dNil)))) (dSet 3 (dVar 4)))) (dSeq (dSet 5 (dCall 2 C_sign_at (dCons (dVar 0) (dCons (dVar 3) (dNil))))) (dSeq (dIf (dB (dOp oEq (dVar 5) (dC (.str (PySem.Str.ofString ""))))) (dRaise "TextError" ["line"] (dCons (dVar 2) (dNil))) (dNext)) (dSeq (dDrop (dMethL oApp (dVar 1) (dCons (dTup (dCons (dC (.str (PySem.Str.ofString "sign"))) (dCons (dVar 5) (dCons (dVar 2) (dNil))))) (dNil)))) (dSet 3 (dOp oAdd (dVar 3) (dCB cLen (dCons (dVar 5) (dNil))))))))))))) (dSeq (dDrop (dMethL oApp (dVar 1) (dCons (dTup (dCons (dC (.str (PySem.Str.ofString "end"))) (dCons (dC (.str (PySem.Str.ofString ""))) (dCons (dVar 2) (dNil))))) (dNil)))) (dRet (dVar 1))))))
theorem rd_is_word : ∀ ds m Φ Ψ, ds.length = 1 → C_is_word ds m Φ Ψ → W_is_word { nx := fun _ m' => Φ .non m', rt := Φ } (fun _ => Ψ) (ds.map some ++ List.replicate (1 - ds.length) none) m := by
  intro ds m Φ Ψ _ h
  obtain ⟨z, rfl, q⟩ := h
  change W_is_word _ _ [some (tS z)] m
  unfold W_is_word
  rw [words_eq, more_eq]
  walk_at "dx"
  refine ⟨z, wordsL, rfl, rfl, ?_⟩
  dsimp only
  rw [if_neg (show ¬ (false = true) by decide)]
  unfold wordQ at q
  by_cases h1 : z ∈ wordsL
  · rw [decide_eq_true h1, if_pos rfl]
    rw [decide_eq_true h1, Bool.true_or] at q
    exact q
  · rw [decide_eq_false h1, if_neg (by decide)]
    rw [decide_eq_false h1, Bool.false_or] at q
    exact ⟨z, moreL, rfl, rfl, by rw [if_neg (show ¬ (false = true) by decide)]; exact q⟩
theorem rd_run_end : ∀ ds m Φ Ψ, ds.length = 2 → C_run_end ds m Φ Ψ → W_run_end { nx := fun _ m' => Φ .non m', rt := Φ } (fun _ => Ψ) (ds.map some ++ List.replicate (3 - ds.length) none) m := by
  intro ds m Φ Ψ _ h
  obtain ⟨z, at_, rfl, ha, hz, q⟩ := h
  change W_run_end _ _ [some (tS z), some (.int (at_ : Nat)), none] m
  unfold W_run_end
  walk_at "stp"
  subst h1
  refine dSeq_k fun k1 h1 => ?_
  unfold dWhile
  refine ⟨fun n ρ m' => ∃ e : Nat, at_ ≤ e ∧ e ≤ z.length ∧ n = z.length - e ∧ e + ((z.drop e).takeWhile isR).length = at_ + ((z.drop at_).takeWhile isR).length ∧ ρ = [some (tS z), some (.int (at_ : Nat)), some (.int (e : Nat))] ∧ m' = m, ⟨_, at_, Nat.le_refl _, ha, rfl, rfl, rfl, rfl⟩, ?_⟩
  rintro n ρ m' ⟨e, he, he2, rfl, ee, rfl, rfl⟩
  rw [let_eq, dig_eq]
  dsimp only [tS]
  walk_at "dx"
  have hL : (SX.S z).length = z.length := SX.S_len _
  have hLi : (SX.S z).length ≤ LIM := by
    rw [hL]
    show _ ≤ 16777216
    omega
  refine ⟨hLi, ?_⟩
  by_cases hlt : e < z.length
  · rw [if_pos (by omega)]
    have hd : z.drop e = z[e] :: z.drop (e + 1) := List.drop_eq_getElem_cons hlt
    rw [hd, List.takeWhile_cons] at ee
    refine ⟨hLi, z[e], atI_nat (List.getElem?_eq_getElem hlt), by decide, by decide, z[e], SX.S (letL ++ digL ++ [95]), rfl, by rw [s_us, SX.S_cat, SX.S_cat], ?_⟩
    rw [show (SX.S (letL ++ digL ++ [95])).cps.toList = letL ++ digL ++ [95] from rfl]
    have ir := in_run z[e]
    by_cases hr : isR z[e] = true
    · rw [hr] at ir
      rw [if_pos (of_decide_eq_true ir)]
      rw [if_pos hr] at ee
      rw [List.length_cons] at ee
      exact ⟨z.length - (e + 1), by omega, e + 1, by omega, hlt, rfl, by omega, rfl⟩
    · have hr : isR z[e] = false := by simpa using hr
      rw [hr] at ir
      rw [if_neg (of_decide_eq_false ir)]
      rw [hr, if_neg (by decide)] at ee
      rw [List.length_nil] at ee
      subst h1
      walk_at "dx"
      rw [← ee] at q
      exact q
  · rw [if_neg (by omega)]
    rw [List.drop_of_length_le (by omega)] at ee
    have ee : e = at_ + ((z.drop at_).takeWhile isR).length := ee
    subst h1
    walk_at "dx"
    rw [← ee] at q
    exact q
theorem rd_run_token : ∀ ds m Φ Ψ, ds.length = 2 → C_run_token ds m Φ Ψ → W_run_token { nx := fun _ m' => Φ .non m', rt := Φ } (fun _ => Ψ) (ds.map some ++ List.replicate (3 - ds.length) none) m := by
  intro ds m Φ Ψ _ h
  obtain ⟨z, line, rfl, hne, hz, hc, q1, q2⟩ := h
  change W_run_token _ _ [some (tS z), some (.int line), none] m
  obtain ⟨c, r, rfl⟩ : ∃ c r, z = c :: r := by
    cases z with
    | nil => exact absurd rfl hne
    | cons c r => exact ⟨c, r, rfl⟩
  have hL : (SX.S (c :: r)).length = (c :: r).length := SX.S_len _
  have hLi : (SX.S (c :: r)).length ≤ LIM := by
    rw [hL]
    show _ ≤ 16777216
    omega
  unfold runTok at q1 q2
  rw [show (c :: r).headD 0 = c from rfl] at q1 q2
  unfold W_run_token
  rw [let_eq, dig_eq]
  refine dSeq_k fun k1 h1 => ?_
  unfold tS
  walk_at "dx"
  refine ⟨hLi, c, atI_cons0, c, SX.S letL, rfl, rfl, ?_⟩
  rw [show (SX.S letL).cps.toList = letL from rfl]
  have il := in_let c
  by_cases hl : isL c = true
  · rw [hl] at il
    rw [if_pos (of_decide_eq_true il)]
    rw [if_pos hl] at q1 q2
    refine ⟨hLi, ?_⟩
    rw [hL]
    by_cases h16 : (c :: r).length > 16
    · rw [if_pos h16] at q2
      rw [if_pos (by omega)]
      exact q2 rfl
    · rw [if_neg h16] at q1
      rw [if_neg (by omega)]
      refine ⟨c :: r, rfl, ?_⟩
      dsimp only
      have q1 := q1 _ rfl
      by_cases hw : wordQ (c :: r) = true
      · rw [if_pos hw]
        rw [if_pos hw] at q1
        exact ⟨by decide, q1⟩
      · rw [if_neg hw]
        rw [if_neg hw] at q1
        exact ⟨by decide, q1⟩
  · have hl : isL c = false := by simpa using hl
    rw [hl] at il
    rw [if_neg (of_decide_eq_false il)]
    rw [hl, if_neg (by decide)] at q1 q2
    subst h1
    refine dSeq_k fun k1 h1 => ?_
    walk_at "dx"
    refine ⟨hLi, ?_⟩
    rw [hL]
    by_cases hcd : (c :: r).length > 10 ∨ ((c :: r).length > 1 ∧ c = 48)
    · rw [if_pos hcd] at q2
      have q2 := q2 rfl
      by_cases h10 : (c :: r).length > 10
      · rw [if_pos (by omega)]
        exact q2
      · rw [if_neg (by omega)]
        refine ⟨by rw [← hL]; exact hLi, ?_⟩
        have h1c := hcd.resolve_left h10
        rw [if_pos (by omega)]
        refine ⟨by rw [← hL]; exact hLi, c, atI_cons0, okE_S (l := [c]) (fun x hx => hc x (by rw [List.mem_singleton.mp hx]; exact List.mem_cons_self)), by rw [s_0]; exact okE_S (l := [48]) (fun x hx => by rw [List.mem_singleton.mp hx]; omega), ?_⟩
        rw [s_0, show eqD (.str { cps := #[c] }) (.str (SX.S [48])) = decide ([c] = [48]) from eqD_S, if_pos (decide_eq_true (by rw [h1c.2]))]
        exact q2
    · rw [if_neg hcd] at q1 q2
      rw [if_neg (by omega)]
      refine ⟨by rw [← hL]; exact hLi, ?_⟩
      have go : k1 [some (D.str (SX.S (c :: r))), some (D.int line), none] m := by
        subst h1
        refine dSeq_k fun k1 h1 => ?_
        walk_at "dx"
        refine forW_map (inj := sgD) (fun rr ρ m' => ∃ (dn : List Nat) (o : Option D), dn ++ rr = c :: r ∧ dn.all isD = true ∧ ρ = [some (D.str (SX.S (c :: r))), some (D.int line), o] ∧ m' = m) ?_ ?_ (c :: r) _ _ ⟨[], _, rfl, rfl, rfl, rfl⟩
        · rintro x rr kk hkk ρ m' ⟨dn, o, e, hd, rfl, rfl⟩
          walk_at "dx"
          refine ⟨x, SX.S digL, rfl, rfl, ?_⟩
          rw [show (SX.S digL).cps.toList = digL from rfl]
          have id := in_dig x
          by_cases hx : isD x = true
          · rw [hx] at id
            rw [if_neg (fun h => h (of_decide_eq_true id))]
            exact hkk _ _ ⟨dn ++ [x], _, by rw [List.append_assoc]; exact e, by rw [List.all_append, hd]; simp [hx], rfl, rfl⟩
          · have hx : isD x = false := by simpa using hx
            rw [hx] at id
            rw [if_pos (of_decide_eq_false id)]
            refine q2 ?_
            rw [if_neg]
            rw [← e, List.all_append, List.all_cons, hx]
            simp
        · rintro ρ m' ⟨dn, o, e, hd, rfl, rfl⟩
          rw [List.append_nil] at e
          subst e
          rw [if_pos hd] at q1
          subst h1
          walk_at "dx"
          have hl10 : (c :: r).length ≤ 10 := by omega
          exact ⟨_, SX.int_S hd (List.cons_ne_nil _ _) (by omega), by rw [hL]; omega, by decide, q1 _ rfl⟩
      by_cases h1l : (c :: r).length > 1
      · rw [if_pos (by omega)]
        refine ⟨by rw [← hL]; exact hLi, c, atI_cons0, okE_S (l := [c]) (fun x hx => hc x (by rw [List.mem_singleton.mp hx]; exact List.mem_cons_self)), by rw [s_0]; exact okE_S (l := [48]) (fun x hx => by rw [List.mem_singleton.mp hx]; omega), ?_⟩
        rw [s_0, show eqD (.str { cps := #[c] }) (.str (SX.S [48])) = decide ([c] = [48]) from eqD_S, if_neg (by rw [decide_eq_false (fun h => hcd (.inr ⟨h1l, (List.cons.inj h).1⟩))]; decide)]
        exact go
      · rw [if_neg (by omega)]
        exact go
theorem rd_sign_at : ∀ ds m Φ Ψ, ds.length = 2 → C_sign_at ds m Φ Ψ → W_sign_at { nx := fun _ m' => Φ .non m', rt := Φ } (fun _ => Ψ) (ds.map some ++ List.replicate (3 - ds.length) none) m := by
  intro ds m Φ Ψ _ h
  obtain ⟨z, at_, rfl, ha, hz, hc, q⟩ := h
  change W_sign_at _ _ [some (tS z), some (.int (at_ : Nat)), none] m
  unfold W_sign_at
  rw [signs_eq]
  refine dSeq_k fun k1 h1 => ?_
  walk_at "dx"
  unfold diTupI
  dsimp only [dC, asT]
  have hL : (SX.S z).length = z.length := SX.S_len _
  have okz : ∀ n, okE 64 (D.str (SX.S ((z.drop at_).take n))) = true := fun n => okE_S fun c h => hc c (List.mem_of_mem_drop (List.mem_of_mem_take h))
  refine forW_map (inj := tS) (fun rr ρ m' => ∃ (o : Option D), signF (z.drop at_) = ((rr.find? fun s => decide ((z.drop at_).take s.length = s)).getD []) ∧ (∀ s ∈ rr, s ∈ signsL) ∧ ρ = [some (tS z), some (D.int (at_ : Nat)), o] ∧ m' = m) ?_ ?_ signsL _ _ ⟨_, rfl, fun s h => h, rfl, rfl⟩
  · rintro s rr kk hkk ρ m' ⟨o, e, hs, rfl, rfl⟩
    have sm := hs s List.mem_cons_self
    have sl : s.length ≤ 2 ∧ ∀ c ∈ s, c < 1114112 := by
      have z : signsL.all (fun s => decide (s.length ≤ 2) && s.all fun c => decide (c < 1114112)) = true := by decide
      have z := List.all_eq_true.mp z s sm
      rw [Bool.and_eq_true] at z
      exact ⟨of_decide_eq_true z.1, fun c hc => of_decide_eq_true (List.all_eq_true.mp z.2 c hc)⟩
    have sL : (SX.S s).length = s.length := SX.S_len _
    walk_at "dx"
    unfold dSlS
    walk_at "dx"
    dsimp only [tS]
    walk_at "dx"
    rw [sL]
    refine ⟨by show _ ≤ 16777216; omega, z, rfl, by show _ ≤ 16777216; omega, ?_⟩
    rw [show ((at_ : Nat) : Int) + (s.length : Nat) = ((at_ + s.length : Nat) : Int) by omega, slice_two ha, Nat.add_sub_cancel_left]
    refine ⟨okz _, okE_S sl.2, ?_⟩
    have eb : eqD (.str (SX.S ((z.drop at_).take s.length))) (tS s) = decide ((z.drop at_).take s.length = s) := eqD_S
    rw [List.find?_cons] at e
    change (if eqD (D.str (SX.S ((z.drop at_).take s.length))) (tS s) = true then _ else _)
    split
    · rename_i hh
      have hm := of_decide_eq_true (eb.symm.trans hh)
      rw [decide_eq_true hm] at e
      dsimp only at e
      rw [e] at q
      exact q
    · rename_i hh
      have hm : ¬ (z.drop at_).take s.length = s := fun h => hh (eb.trans (decide_eq_true h))
      rw [decide_eq_false hm] at e
      dsimp only at e
      exact hkk _ _ ⟨_, e, fun t ht => hs t (List.mem_cons_of_mem _ ht), rfl, rfl⟩
  · rintro ρ m' ⟨o, e, hs, rfl, rfl⟩
    subst h1
    walk_at "dx"
    rw [s_no]
    rw [e] at q
    exact q
theorem signF_spec (l : List Nat) : signF l = [] ∨ (signF l ∈ signsL ∧ l.take (signF l).length = signF l) := by
  unfold signF
  cases h : signsL.find? fun s => decide (l.take s.length = s) with
  | none => exact .inl rfl
  | some s =>
    have e := List.find?_some h
    exact .inr ⟨List.mem_of_find?_eq_some h, of_decide_eq_true e⟩
theorem take_tw {p : Nat → Bool} : ∀ l : List Nat, l.take (l.takeWhile p).length = l.takeWhile p
  | [] => rfl
  | c :: r => by
    rw [List.takeWhile_cons]
    split
    · rw [List.length_cons, List.take_succ_cons, take_tw r]
    · rfl
theorem drop_tw {p : Nat → Bool} : ∀ l : List Nat, l.drop (l.takeWhile p).length = l.dropWhile p
  | [] => rfl
  | c :: r => by
    rw [List.takeWhile_cons, List.dropWhile_cons]
    split
    · rw [List.length_cons, List.drop_succ_cons, drop_tw r]
    · rfl
/-- what stands in front of what is still read -/
def preX (fs : List D) : Sum Int (List D) → Sum Int (List D)
  | .inl e => .inl e
  | .inr ts => .inr (fs ++ ts)
theorem preX_cons {fs : List D} {t : D} {x : Sum Int (List D)} : preX fs (consX t x) = preX (fs ++ [t]) x := by
  cases x with
  | inl e => rfl
  | inr ts =>
    show Sum.inr (fs ++ t :: ts) = Sum.inr ((fs ++ [t]) ++ ts)
    rw [List.append_assoc]
    rfl
theorem preX_nil {x : Sum Int (List D)} : preX [] x = x := by cases x <;> rfl
theorem tok_pl {k : String} {v : D} {line : Int} {n : Nat} (h : clD n v = true) : clD n (tokD k v line) = true := by
  show (true && (clD n v && (true && true))) = true
  rw [h]
  rfl
theorem runTok_pl {run : List Nat} {line : Int} {t : D} {n : Nat} (h : runTok run line = some t) : clD n t = true := by
  unfold runTok at h
  split at h
  · split at h
    · cases h
    · injection h with h
      rw [← h]
      exact tok_pl rfl
  · split at h
    · cases h
    · split at h
      · injection h with h
        rw [← h]
        exact tok_pl rfl
      · cases h
theorem clAll_snoc {n : Nat} {fs : List D} {t : D} (h : clAll n fs = true) (ht : clD n t = true) : clAll n (fs ++ [t]) = true := clAll_app h (by show (clD n t && true) = true; rw [ht]; rfl)
theorem rd_tokenize : ∀ ds m Φ Ψ, ds.length = 1 → C_tokenize ds m Φ Ψ → W_tokenize { nx := fun _ m' => retQ m Φ .non m', rt := retQ m Φ } (fun _ => retX m Ψ) (ds.map some ++ List.replicate (6 - ds.length) none) m := by
  intro ds m Φ Ψ _ h
  obtain ⟨z, rfl, hz, hc, q1, q2⟩ := h
  have hL : (SX.S z).length = z.length := SX.S_len _
  have hLi : (SX.S z).length ≤ LIM := by
    rw [hL]
    show _ ≤ 16777216
    omega
  change W_tokenize _ _ [some (tS z), none, none, none, none, none] m
  unfold W_tokenize
  walk_at "stp"
  refine ⟨by decide, ?_⟩
  walk_at "nxt"
  walk_at "nxt"
  subst h1
  refine dSeq_k fun k1 h1 => ?_
  unfold dWhile
  refine ⟨fun n ρ m' => ∃ (fs : List D) (line : Int) (at_ : Nat) (o4 o5 : Option D), at_ ≤ z.length ∧ n = z.length - at_ ∧ fs.length ≤ at_ ∧ clAll m.M.length fs = true ∧ Lx z 1 = preX fs (Lx (z.drop at_) line) ∧
    ρ = [some (tS z), some (.hnd m.M.length), some (.int line), some (.int (at_ : Nat)), o4, o5] ∧ m' = m.push (.lst fs), ⟨_, [], 1, 0, _, _, Nat.zero_le _, rfl, Nat.le_refl _, rfl, preX_nil.symm, rfl, rfl⟩, ?_⟩
  rintro n ρ m' ⟨fs, line, at_, o4, o5, ha, rfl, fl, fc, eX, rfl, rfl⟩
  dsimp only [tS]
  walk_at "dx"
  refine ⟨hLi, ?_⟩
  rw [hL]
  by_cases hlt : at_ < z.length
  · rw [if_pos (by omega)]
    have hd : z.drop at_ = z[at_] :: z.drop (at_ + 1) := List.drop_eq_getElem_cons hlt
    have hg : z[at_]? = some z[at_] := List.getElem?_eq_getElem hlt
    have hcm : z[at_] < 1114112 := hc _ (List.getElem_mem hlt)
    obtain ⟨c, hcc⟩ : ∃ c, c = z[at_] := ⟨_, rfl⟩
    rw [← hcc] at hd hg hcm
    have hzL : z.length ≤ LIM := by rw [← hL]; exact hLi
    have okc : okE 64 (D.str ⟨#[c]⟩) = true := okE_S (l := [c]) fun x hx => by rw [List.mem_singleton.mp hx]; exact hcm
    have ok1 : ∀ n : Nat, n < 1114112 → okE 64 (D.str (SX.S [n])) = true := fun n hn => okE_S fun x hx => by rw [List.mem_singleton.mp hx]; exact hn
    have eq1 : ∀ n : Nat, eqD (D.str ⟨#[c]⟩) (D.str (SX.S [n])) = decide ([c] = [n]) := fun n => eqD_S
    rw [hd] at eX
    refine ⟨hzL, c, atI_nat hg, okc, by rw [s_nl]; exact ok1 _ (by decide), ?_⟩
    rw [s_nl, eq1]
    by_cases c10 : c = 10
    · rw [if_pos (by rw [c10]; rfl)]
      rw [c10, Lx_nl] at eX
      exact ⟨z.length - (at_ + 1), by omega, fs, line + 1, at_ + 1, o4, o5, hlt, rfl, by omega, fc, eX, rfl, rfl⟩
    rw [if_neg (by simp [c10])]
    refine ⟨hzL, c, atI_nat hg, okc, by rw [s_sp]; exact ok1 _ (by decide), ?_⟩
    rw [s_sp, eq1]
    by_cases c32 : c = 32
    · rw [if_pos (by rw [c32]; rfl)]
      rw [c32, Lx_sp] at eX
      exact ⟨z.length - (at_ + 1), by omega, fs, line, at_ + 1, o4, o5, hlt, rfl, by omega, fc, eX, rfl, rfl⟩
    rw [if_neg (by simp [c32])]
    refine ⟨hzL, c, atI_nat hg, okc, by rw [s_hs]; exact ok1 _ (by decide), ?_⟩
    rw [s_hs, eq1]
    by_cases c35 : c = 35
    · rw [if_pos (by rw [c35]; rfl)]
      rw [c35, Lx_hash] at eX
      refine ⟨fun n ρ m' => ∃ e : Nat, at_ ≤ e ∧ e ≤ z.length ∧ n = z.length - e ∧ (z.drop e).dropWhile (fun c => decide (c ≠ 10)) = (z.drop (at_ + 1)).dropWhile (fun c => decide (c ≠ 10)) ∧
        ρ = [some (D.str (SX.S z)), some (.hnd m.M.length), some (.int line), some (.int (e : Nat)), o4, o5] ∧ m' = ⟨m.M ++ [.lst fs], m.s⟩, ⟨_, at_, Nat.le_refl _, ha, rfl, by rw [hd, c35, List.dropWhile_cons, if_pos (by decide)], rfl, rfl⟩, ?_⟩
      rintro n' ρ' m'' ⟨e, he, he2, rfl, ee, rfl, rfl⟩
      walk_at "dx"
      have fin : e ≠ at_ → z.drop e = (z.drop (at_ + 1)).dropWhile (fun c => decide (c ≠ 10)) → ∃ n', n' < z.length - at_ ∧ ∃ (fs_1 : List D) (line_1 : Int) (at__1 : Nat) (o4_1 o5_1 : Option D), at__1 ≤ z.length ∧ n' = z.length - at__1 ∧ fs_1.length ≤ at__1 ∧ clAll m.M.length fs_1 = true ∧ Lx z 1 = preX fs_1 (Lx (z.drop at__1) line_1) ∧
          [some (D.str (SX.S z)), some (D.hnd m.M.length), some (D.int line), some (D.int (e : Nat)), o4, o5] = [some (D.str (SX.S z)), some (D.hnd m.M.length), some (D.int line_1), some (D.int (at__1 : Nat)), o4_1, o5_1] ∧ ({ M := m.M ++ [MO.lst fs], s := m.s } : MM) = { M := m.M ++ [MO.lst fs_1], s := m.s } := fun hne hdr => by
        rw [← hdr] at eX
        exact ⟨z.length - e, by omega, fs, line, e, o4, o5, he2, rfl, by omega, fc, eX, rfl, rfl⟩
      refine ⟨hLi, ?_⟩
      rw [hL]
      by_cases hle : e < z.length
      · rw [if_pos (by omega)]
        have hd2 : z.drop e = z[e] :: z.drop (e + 1) := List.drop_eq_getElem_cons hle
        have hcm2 : z[e] < 1114112 := hc _ (List.getElem_mem hle)
        refine ⟨hzL, z[e], atI_nat (List.getElem?_eq_getElem hle), okE_S (l := [z[e]]) (fun x hx => by rw [List.mem_singleton.mp hx]; exact hcm2), ok1 _ (by decide), ?_⟩
        rw [show eqD (D.str ⟨#[z[e]]⟩) (D.str (SX.S [10])) = decide ([z[e]] = [10]) from eqD_S]
        by_cases h10 : z[e] = 10
        · rw [if_neg (by rw [h10]; decide)]
          refine fin (fun h => ?_) ?_
          · have : z[e] = c := by rw [hcc]; congr
            rw [h10, c35] at this
            exact absurd this (by decide)
          · rw [← ee, hd2, List.dropWhile_cons, if_neg (by rw [h10]; decide)]
        · rw [if_pos (by rw [decide_eq_false (fun h => h10 (List.cons.inj h).1)])]
          refine ⟨z.length - (e + 1), by omega, e + 1, by omega, hle, rfl, ?_, rfl⟩
          rw [← ee, hd2, List.dropWhile_cons, if_pos (decide_eq_true h10)]
      · rw [if_neg (by omega)]
        refine fin (by omega) ?_
        rw [← ee, List.drop_of_length_le (by omega)]
        rfl
    rw [if_neg (by simp [c35])]
    have err : ∀ m' : MM, m' = ⟨m.M ++ [MO.lst fs], m.s⟩ → Lx z 1 = .inl line → retX m Ψ "TextError" [("line", D.int line)] m' := fun m' e h => by
      rw [e]
      exact ⟨m.M, [.lst fs], rfl, kept.rfl, rfl, q2 line h⟩
    refine ⟨z, at_, rfl, ha, hz, ?_⟩
    by_cases hR : isR c = true
    · obtain ⟨run, hrun⟩ : ∃ run, run = (z.drop at_).takeWhile isR := ⟨_, rfl⟩
      rw [← hrun]
      have rc : run = c :: (z.drop (at_ + 1)).takeWhile isR := by rw [hrun, hd, List.takeWhile_cons, if_pos hR]
      have rl : 1 ≤ run.length := by rw [rc, List.length_cons]; omega
      have rle : at_ + run.length ≤ z.length := by
        have := (List.takeWhile_sublist (p := isR) (l := z.drop at_)).length_le
        rw [← hrun, List.length_drop] at this
        omega
      have rt : (z.drop at_).take run.length = run := by rw [hrun]; exact take_tw _
      have rd : z.drop (at_ + run.length) = (z.drop at_).dropWhile isR := by rw [← List.drop_drop, hrun]; exact drop_tw _
      rw [Lx_run hR, ← hd, ← hrun, ← rd] at eX
      walk_at "dx"
      rw [if_pos (by omega)]
      refine ⟨z, at_, rfl, ha, hz, ?_⟩
      rw [← hrun]
      walk_at "dx"
      unfold dSlS
      walk_at "dx"
      refine ⟨z, rfl, hzL, ?_⟩
      rw [slice_two ha, Nat.add_sub_cancel_left, rt]
      refine ⟨run, line, rfl, fun h => by rw [h] at rl; exact absurd rl (by decide), by omega, fun x hx => hc x ?_, fun t ht => ?_, fun ht => ?_⟩
      · rw [hrun] at hx
        exact List.mem_of_mem_drop ((List.takeWhile_sublist _).subset hx)
      · rw [ht] at eX
        dsimp only at eX
        rw [preX_cons] at eX
        walk_at "dx"
        exact ⟨by show _ < 16777216; omega, z.length - (at_ + run.length), by omega, fs ++ [t], line, at_ + run.length, some (.int ((at_ + run.length : Nat) : Int)), o5, rle, rfl, by rw [List.length_append, List.length_singleton]; omega, clAll_snoc fc (runTok_pl ht), eX, rfl, by simp [MM.push]⟩
      · rw [ht] at eX
        exact err _ rfl eX
    · have hR : isR c = false := by simpa using hR
      rw [hd, List.takeWhile_cons, if_neg (by rw [hR]; decide)]
      walk_at "dx"
      rw [if_neg (by omega)]
      refine ⟨z, at_, rfl, ha, hz, hc, ?_⟩
      rw [Lx_sign c10 c32 c35 hR, ← hd] at eX
      obtain ⟨g, hg2⟩ : ∃ g, g = signF (z.drop at_) := ⟨_, rfl⟩
      rw [← hg2] at eX ⊢
      have gs := signF_spec (z.drop at_)
      rw [← hg2] at gs
      have gm : ∀ x ∈ g, x < 1114112 := fun x hx => by
        rcases gs with h | ⟨_, h⟩
        · rw [h] at hx; cases hx
        · rw [← h] at hx
          exact hc x (List.mem_of_mem_drop (List.mem_of_mem_take hx))
      have gl : g.length ≤ z.length - at_ := by
        rcases gs with h | ⟨_, h⟩
        · rw [h]; exact Nat.zero_le _
        · have := congrArg List.length h
          rw [List.length_take, List.length_drop] at this
          omega
      have gL : (SX.S g).length = g.length := SX.S_len _
      walk_at "dx"
      refine ⟨okE_S gm, by rw [s_no]; exact okE_S (l := []) (fun x hx => by cases hx), ?_⟩
      rw [s_no, show eqD (tS g) (D.str (SX.S [])) = decide (g = []) from eqD_S]
      by_cases hgn : g = []
      · rw [if_pos hgn] at eX
        rw [if_pos (decide_eq_true hgn)]
        exact err _ rfl eX
      · rw [if_neg hgn, preX_cons, List.drop_drop] at eX
        rw [if_neg (by rw [decide_eq_false hgn]; decide)]
        have g1 : 1 ≤ g.length := List.length_pos_iff.mpr hgn
        refine ⟨by decide, by show _ < 16777216; omega, ?_⟩
        dsimp only [tS]
        refine ⟨by rw [gL]; show _ ≤ 16777216; omega, z.length - (at_ + g.length), by omega, fs ++ [tokD "sign" (tS g) line], line, at_ + g.length, o4, some (tS g), by omega, rfl, by rw [List.length_append, List.length_singleton]; omega, clAll_snoc fc rfl, eX, ?_, ?_⟩
        · rw [gL, show ((at_ : Nat) : Int) + (g.length : Nat) = ((at_ + g.length : Nat) : Int) by omega]
          rfl
        · rfl
  · rw [if_neg (by omega)]
    rw [List.drop_of_length_le (by omega), Lx_nil] at eX
    subst h1
    refine dSeq_k fun k1 h1 => ?_
    walk_at "dx"
    rw [s_no]
    refine ⟨by decide, by show _ < 16777216; omega, ?_⟩
    subst h1
    walk_at "dx"
    exact retQ_lst (clAll_snoc fc rfl) (q1 _ eX)

/-! ### pieces of a program's text -/
inductive Pc where
  | wd (z : List Nat) | nu (n : Int) | na (z : List Nat) | sg (z : List Nat)
def Pc.kind : Pc → String
  | .wd _ => "word"
  | .nu _ => "number"
  | .na _ => "name"
  | .sg _ => "sign"
def Pc.val : Pc → D
  | .wd z => tS z
  | .nu n => .int n
  | .na z => tS z
  | .sg z => tS z
def Pc.txt : Pc → List Nat
  | .wd z => z
  | .nu n => numZ n
  | .na z => z
  | .sg z => z
def nameOK (z : List Nat) : Prop := isL (z.headD 0) = true ∧ z.all isR = true ∧ z.length ≤ 16 ∧ wordQ z = false ∧ z ≠ []
def Pc.ok : Pc → Prop
  | .wd z => z ∈ wordsL ++ moreL
  | .nu n => 0 ≤ n ∧ n < 10000000000
  | .na z => nameOK z
  | .sg z => z ∈ signsL
def nlN (l : List Nat) : Nat := (l.filter fun c => decide (c = 10)).length
def isS : Pc → Bool
  | .sg _ => true
  | _ => false
def eqQ : Pc → Bool
  | .sg z => decide (z = [61])
  | _ => false
theorem ix_txt {l : List Nat} {t : Int} {P : Nat → Prop} (hl : l.length ≤ 1000) (h0 : 0 ≤ t) (h1 : t < l.length) (h : ∀ c ∈ l, P c) : (SX.S l).length ≤ LIM ∧ ∃ c, atI (SX.S l).cps.toList t = some c ∧ P c := by
  have e : l[t.toNat]? = some l[t.toNat] := List.getElem?_eq_getElem (by omega)
  refine ⟨by rw [SX.S_len]; show _ ≤ 16777216; omega, l[t.toNat], ?_, h _ (List.getElem_mem _)⟩
  have z := atI_nat (xs := l) (j := t.toNat) e
  rw [show ((t.toNat : Nat) : Int) = t by omega] at z
  exact z
theorem isR_lt {c : Nat} (h : isR c = true) : c < 1114112 := by
  rw [← in_run] at h
  have hm := of_decide_eq_true h
  have z : (letL ++ digL ++ [95]).all (fun c => decide (c < 1114112)) = true := by decide +kernel
  exact of_decide_eq_true (List.all_eq_true.mp z c hm)
theorem nlN_app (a b : List Nat) : nlN (a ++ b) = nlN a + nlN b := by
  unfold nlN
  rw [List.filter_append, List.length_append]
theorem drop_com {r rest : List Nat} (h : ∀ c ∈ r, c ≠ 10) : (r ++ 10 :: rest).dropWhile (fun c => decide (c ≠ 10)) = 10 :: rest := by
  induction r with
  | nil => rfl
  | cons c r ih =>
    rw [List.cons_append, List.dropWhile_cons, if_pos (decide_eq_true (h c List.mem_cons_self))]
    exact ih fun x hx => h x (List.mem_cons_of_mem _ hx)
theorem nlN_no {r : List Nat} (h : ∀ c ∈ r, c ≠ 10) : nlN r = 0 := by
  unfold nlN
  rw [List.filter_eq_nil_iff.mpr fun c hc => by simp [h c hc]]
  rfl
theorem word_len : ∀ z ∈ wordsL ++ moreL, z.length ≤ 8 ∧ z.all (fun c => decide (97 ≤ c ∧ c ≤ 122)) = true ∧ z ≠ [] := fun z hz => by
  have a : (wordsL ++ moreL).all (fun z => decide (z.length ≤ 8 ∧ z.all (fun c => decide (97 ≤ c ∧ c ≤ 122)) = true ∧ z ≠ [])) = true := by decide +kernel
  exact of_decide_eq_true (List.all_eq_true.mp a z hz)
theorem wordQ_mem {z : List Nat} : wordQ z = decide (z ∈ wordsL ++ moreL) := by
  unfold wordQ
  by_cases h1 : z ∈ wordsL <;> by_cases h2 : z ∈ moreL <;> simp [h1, h2]
def OKr : Option Pc → List Nat → Prop
  | none, _ => True
  | some _, [] => True
  | some p, c :: _ => (isS p = false → isR c = false) ∧ (eqQ p = true → c ≠ 61)
theorem tw_all {p : Nat → Bool} : ∀ (z rest : List Nat), z.all p = true → (∀ c r, rest = c :: r → p c = false) → (z ++ rest).takeWhile p = z ∧ (z ++ rest).dropWhile p = rest
  | [], [], _, _ => ⟨rfl, rfl⟩
  | [], c :: r, _, h => by
    have hc := h c r rfl
    rw [List.nil_append, List.takeWhile_cons, List.dropWhile_cons, if_neg (by rw [hc]; decide), if_neg (by rw [hc]; decide)]
    exact ⟨rfl, rfl⟩
  | c :: z, rest, ha, h => by
    rw [List.all_cons, Bool.and_eq_true] at ha
    obtain ⟨i1, i2⟩ := tw_all z rest ha.2 h
    rw [List.cons_append, List.takeWhile_cons, List.dropWhile_cons, if_pos ha.1, if_pos ha.1, i1, i2]
    exact ⟨rfl, rfl⟩
theorem lex_run {z rest : List Nat} {line : Int} {t : D} (hz : z ≠ []) (ha : z.all isR = true) (hr : ∀ c r, rest = c :: r → isR c = false) (ht : runTok z line = some t) : Lx (z ++ rest) line = consX t (Lx rest line) := by
  obtain ⟨t1, t2⟩ := tw_all z rest ha hr
  cases z with
  | nil => exact absurd rfl hz
  | cons c r =>
    rw [List.all_cons, Bool.and_eq_true] at ha
    rw [List.cons_append] at t1 t2 ⊢
    rw [Lx_run ha.1, t1, t2, ht]
theorem let_R {c : Nat} (h : 97 ≤ c ∧ c ≤ 122) : isL c = true ∧ isR c = true := by
  have : isL c = true := by
    unfold isL
    rw [decide_eq_true h.1, decide_eq_true h.2]
    rfl
  exact ⟨this, by unfold isR; rw [this]; rfl⟩
theorem word_R {z : List Nat} (hz : z ∈ wordsL ++ moreL) : z.all isR = true ∧ isL (z.headD 0) = true := by
  obtain ⟨w1, w2, w3⟩ := word_len z hz
  refine ⟨List.all_eq_true.mpr fun c hc => (let_R (of_decide_eq_true (List.all_eq_true.mp w2 c hc))).2, ?_⟩
  cases z with
  | nil => exact absurd rfl w3
  | cons c r => exact (let_R (of_decide_eq_true (List.all_eq_true.mp w2 c List.mem_cons_self))).1
theorem num_D {n : Int} : (numZ n).all isD = true := List.all_eq_true.mpr fun c hc => by
  have := numZ_range c hc
  unfold isD
  rw [decide_eq_true this.1, decide_eq_true this.2]
  rfl
theorem D_R {c : Nat} (h : isD c = true) : isR c = true ∧ isL c = false := by
  unfold isD at h
  rw [Bool.and_eq_true] at h
  have h1 := of_decide_eq_true h.1
  have h2 := of_decide_eq_true h.2
  refine ⟨?_, ?_⟩
  · unfold isR isD
    rw [decide_eq_true h1, decide_eq_true h2]
    simp
  · unfold isL
    rw [decide_eq_false (p := 97 ≤ c) (by omega), decide_eq_false (p := 65 ≤ c) (by omega)]
    rfl
theorem lex_piece {p : Pc} (hp : p.ok) {rest : List Nat} {line : Int} (h : OKr (some p) rest) : Lx (p.txt ++ rest) line = consX (tokD p.kind p.val line) (Lx rest line) := by
  cases p with
  | wd z =>
    obtain ⟨w1, w2, w3⟩ := word_len z hp
    obtain ⟨r1, r2⟩ := word_R hp
    refine lex_run w3 r1 (fun c r e => ?_) ?_
    · subst e
      exact h.1 rfl
    · show runTok z line = some (tokD "word" (tS z) line)
      unfold runTok
      have hq : wordQ z = true := by rw [wordQ_mem]; exact decide_eq_true hp
      rw [if_pos r2, if_neg (by omega), if_pos hq]
  | na z =>
    obtain ⟨h1, h2, h3, h4, h5⟩ := hp
    refine lex_run h5 h2 (fun c r e => ?_) ?_
    · subst e
      exact h.1 rfl
    · show runTok z line = some (tokD "name" (tS z) line)
      unfold runTok
      rw [if_pos h1, if_neg (by omega), if_neg (by rw [h4]; decide)]
  | nu n =>
    have l10 := numZ_len hp
    have nd := num_D (n := n)
    have hne := numZ_ne (z := n)
    refine lex_run hne (List.all_eq_true.mpr fun c hc => (D_R (List.all_eq_true.mp nd c hc)).1) (fun c r e => ?_) ?_
    · subst e
      exact h.1 rfl
    · show runTok (numZ n) line = some (tokD "number" (.int n) line)
      unfold runTok
      have hh : isL ((numZ n).headD 0) = false := by
        cases e : numZ n with
        | nil => exact absurd e hne
        | cons c r =>
          rw [e] at nd
          exact (D_R (List.all_eq_true.mp nd c List.mem_cons_self)).2
      have hz : ¬ ((numZ n).length > 10 ∨ ((numZ n).length > 1 ∧ (numZ n).headD 0 = 48)) := fun hh => by
        rcases hh with hh | ⟨g1, g2⟩
        · omega
        · cases e : numZ n with
          | nil => exact hne e
          | cons c r =>
            rw [e] at g2
            have g2 : c = 48 := g2
            by_cases h0 : 1 ≤ n.toNat
            · exact numL_head _ h0 r (by rw [← g2]; exact e)
            · have : n.toNat = 0 := by omega
              unfold numZ at g1
              rw [this] at g1
              exact absurd g1 (by decide)
      rw [if_neg (by rw [hh]; decide), if_neg hz, if_pos nd]
      show some (tokD "number" (.int ((NumText.digitsVal (TL.numL n.toNat) : Nat) : Int)) line) = some (tokD "number" (.int n) line)
      rw [TL.numL_val, show ((n.toNat : Nat) : Int) = n by have := hp.1; omega]
  | sg z =>
    have sg : ∀ c r, c ≠ 10 → c ≠ 32 → c ≠ 35 → isR c = false → z = c :: r → signF (z ++ rest) = z → Lx (z ++ rest) line = consX (tokD "sign" (tS z) line) (Lx rest line) := fun c r h1 h2 h3 h4 e hs => by
      subst e
      rw [List.cons_append] at hs ⊢
      rw [Lx_sign h1 h2 h3 h4, hs, if_neg (List.cons_ne_nil _ _), ← List.cons_append, List.drop_left' rfl]
    have hz : z ∈ signsL := hp
    unfold signsL at hz
    simp only [List.mem_cons, List.not_mem_nil, or_false] at hz
    show Lx (z ++ rest) line = consX (tokD "sign" (tS z) line) (Lx rest line)
    rcases hz with rfl | rfl | rfl | rfl | rfl | rfl | rfl | rfl | rfl | rfl | rfl | rfl | rfl
    · exact sg 61 [61] (by decide) (by decide) (by decide) (by decide) rfl (by simp [signF, signsL])
    · exact sg 40 [] (by decide) (by decide) (by decide) (by decide) rfl (by simp [signF, signsL])
    · exact sg 41 [] (by decide) (by decide) (by decide) (by decide) rfl (by simp [signF, signsL])
    · exact sg 91 [] (by decide) (by decide) (by decide) (by decide) rfl (by simp [signF, signsL])
    · exact sg 93 [] (by decide) (by decide) (by decide) (by decide) rfl (by simp [signF, signsL])
    · exact sg 44 [] (by decide) (by decide) (by decide) (by decide) rfl (by simp [signF, signsL])
    · refine sg 61 [] (by decide) (by decide) (by decide) (by decide) rfl ?_
      cases rest with
      | nil => simp [signF, signsL]
      | cons d r =>
        have hd : d ≠ 61 := h.2 rfl
        simp [signF, signsL, hd]
    · exact sg 60 [] (by decide) (by decide) (by decide) (by decide) rfl (by simp [signF, signsL])
    · exact sg 58 [] (by decide) (by decide) (by decide) (by decide) rfl (by simp [signF, signsL])
    · exact sg 43 [] (by decide) (by decide) (by decide) (by decide) rfl (by simp [signF, signsL])
    · exact sg 45 [] (by decide) (by decide) (by decide) (by decide) rfl (by simp [signF, signsL])
    · exact sg 42 [] (by decide) (by decide) (by decide) (by decide) rfl (by simp [signF, signsL])
    · exact sg 94 [] (by decide) (by decide) (by decide) (by decide) rfl (by simp [signF, signsL])
end Dl
namespace K42
open PySem L2 Dl
local macro_rules | `(tactic| walk_at "dl") => `(tactic| try simp only [dSeq, dSet, dRaise_one, dRaise_two, dTryAs, dXf, dIsE, List.lookup_cons, List.lookup_nil, beq_self_eq_true, Bool.false_eq_true, if_false, dOp, dUn, dVar, dC, dCB, dCons, dNil, dRet, dRetN, dIf, dB, dAnd, dOr, dNot, dDrop, dNext, dMethL, dSetIx, dAndV, dOrV, dNotV, dBlV, dIfE, dLst, dTup, dLstM, dCall, dChain, dAsg, dgName, dgTup, bindD, asT, dFor, diList, diRng1, diRng2, diEnumerate, diZip, diReversed, dLc, dLcM, dYes, wipeD, dAug, dSl, dSlT, dpN, dpS,
  oI, oI0, oB0, oAdd, oNeg, oEq, oNe, oIx, oIsN, oNotN, isNon, oShl, oApp, oPop, oPopAt, cLen, cInt, cAbs, cSum, cMax2, cMin2, cList, cIsi, tyD, asL, asF, asK, moL_lst, ModC, DivC,
  List.getElem?_cons_zero, List.getElem?_cons_succ, List.set_cons_zero, List.set_cons_succ, List.getElem?_nil, List.length_cons, List.length_nil, List.length_map, Option.map_some, Option.bind_some, Option.isSome_some, if_true, true_and, and_true, MM.push])
local macro_rules | `(tactic| walk_at "dx") => `(tactic| try simp only [eq_self_iff_true, okE_int, okE_bl, okE_non, eqD_int, eqD_bl, kq_NoneType_int, kq_NoneType_bool, kq_NoneType_list, kq_NoneType_tuple, kq_NoneType_str, kq_bool_int, kq_bool_bool, kq_bool_list, kq_bool_tuple, kq_bool_str, kq_int_int, kq_int_bool, kq_int_list, kq_int_tuple, kq_int_str, kq_str_int, kq_str_bool, kq_str_list, kq_str_tuple, kq_str_str, kq_list_int, kq_list_bool, kq_list_list, kq_list_tuple, kq_list_str, kq_tuple_int, kq_tuple_bool, kq_tuple_list, kq_tuple_tuple, kq_tuple_str, dMethS, oSplit, oJoin, cStr, cIntS, diStr, oInS, oInL, oIsB, oNotB, oEqH, oNeH, oShr, oExt, cMaxL, cMinL, cAny, cAll, cTuple, cListM, dRevL, dFld, dSetF, dAugF, dMeth, dMake, moI_ins, app_len, set_app, List.contains_cons, List.contains_nil, Bool.true_or,  Bool.true_eq_false, decide_true, not_true_eq_false, not_false_eq_true, Bool.not_true, Bool.not_false, decide_eq_true_eq, Bool.not_eq_true', decide_eq_false_iff_not, dSeq, dSet, dRaise_one, dRaise_two, dTryAs, dXf, dIsE, List.lookup_cons, List.lookup_nil, beq_self_eq_true, Bool.false_eq_true, if_false, dOp, dUn, dVar, dC, dCB, dCons, dNil, dRet, dRetN, dIf, dB, dAnd, dOr, dNot, dDrop, dNext, dMethL, dSetIx, dAndV, dOrV, dNotV, dBlV, dIfE, dLst, dTup, dLstM, dCall, dChain, dAsg, dgName, dgTup, bindD, asT, dFor, diList, diRng1, diRng2, diEnumerate, diZip, diReversed, dLc, dLcM, dYes, wipeD, dAug, dSl, dSlT, dpN, dpS,
  oI, oI0, oB0, oAdd, oNeg, oEq, oNe, oIx, oIsN, oNotN, isNon, oShl, oApp, oPop, oPopAt, cLen, cInt, cAbs, cSum, cMax2, cMin2, cList, cIsi, tyD, asL, asF, asK, moL_lst, ModC, DivC,
  List.getElem?_cons_zero, List.getElem?_cons_succ, List.set_cons_zero, List.set_cons_succ, List.getElem?_nil, List.length_cons, List.length_nil, List.length_map, Option.map_some, Option.bind_some, Option.isSome_some, if_true, true_and, and_true, MM.push])
local macro_rules | `(tactic| walk_at "lim") => `(tactic| repeat (first | (refine ⟨by decide, ?_⟩) | (refine ⟨by (try simp only [List.length_map, List.length_dropLast, List.length_append, List.length_cons, List.length_nil, List.length_replicate, List.length_take, List.length_drop, List.length_range]); (show _ ≤ 16777216); omega, ?_⟩)))

set_option hygiene false in
local macro_rules | `(tactic| walk_at "stp") => `(tactic| (refine dSeq_k fun k1 h1 => ?_; walk_at "dx"))
set_option hygiene false in
local macro_rules | `(tactic| walk_at "nxt") => `(tactic| (subst h1; (try dsimp only); refine dSeq_k fun k1 h1 => ?_; walk_at "dx"))
set_option hygiene false in
local macro_rules | `(tactic| walk_at "lst") => `(tactic| (subst h1; (try dsimp only); walk_at "dx"))
set_option hygiene false in
local macro_rules | `(tactic| walk_at "nxt2") => `(tactic| (subst h2; (try dsimp only); refine dSeq_k fun k2 h2 => ?_; walk_at "dx"))
set_option hygiene false in
local macro_rules | `(tactic| walk_at "stp2") => `(tactic| (refine dSeq_k fun k2 h2 => ?_; walk_at "dx"))
set_option hygiene false in
local macro_rules | `(tactic| walk_at "lst2") => `(tactic| (subst h2; (try dsimp only); walk_at "dx"))
set_option hygiene false in
local macro_rules | `(tactic| walk_at "nx0") => `(tactic| (subst h1; (try dsimp only); refine dSeq_k fun k1 h1 => ?_))

--#TX
/-! ### bad parts -/
def goodL : List (List Nat) := [[97], [115, 117, 109], [120, 49, 95], [61], [55], [61, 61], [40], [41], [91], [60], [101, 97, 99, 104], [48], [57, 57, 57, 57, 57, 57, 57, 57, 57, 57], [35, 32, 48, 48, 55, 32, 36], [94]]
def markL : List Nat := [95, 62, 36, 64, 63, 123, 125, 34, 39, 33, 38, 59, 124, 126, 46, 47]
def behL : List (List Nat) := [[], [32, 120], [10, 61, 32, 58], [10, 59], [32, 35, 32, 120]]
def digs (n : Nat) (z : List Nat) : Prop := z.length = n ∧ z.all isD = true ∧ z ≠ []
def OKb : List Nat → Prop
  | [] => True
  | c :: _ => isR c = false
structure Bad (z : List Nat) : Prop where
  er : ∀ rest line, OKb rest → Lx (z ++ rest) line = .inl line
  cd : ∀ c ∈ z, c ≠ 10 ∧ c < 1114112
  len : z.length ≤ 30
structure Ahead (T : List Nat) : Prop where
  lx : ∃ due, ∀ rest, Lx (T ++ rest) 1 = preX due (Lx rest (1 + (nlN T : Nat)))
  cd : ∀ c ∈ T, c < 1114112
  len : T.length ≤ 300
def C__law_good : DC := fun ds m Φ _ => ds = [.st 0] ∧ m.s = 1 ∧ ∀ z ∈ goodL, Φ (tS z) m
def C__law_digits : DC := fun ds m Φ _ => ∃ n : Nat, ds = [.st 0, .int (n : Nat)] ∧ m.s = 1 ∧ 1 ≤ n ∧ n ≤ 20 ∧ ∀ z, digs n z → Φ (tS z) m
def C__law_bad : DC := fun ds m Φ _ => ds = [.st 0] ∧ m.s = 1 ∧ ∀ z, Bad z → Φ (tS z) m
def C__law_lines : DC := fun ds m Φ _ => ds = [.st 0] ∧ m.s = 1 ∧ ∀ T, Ahead T → Φ (tS T) m
def C__law_outcome : DC := fun ds m Φ _ => ∃ z : List Nat, ds = [tS z] ∧ z.length ≤ 100000 ∧ (∀ c ∈ z, c < 1114112) ∧ (∀ ts, Lx z 1 = .inr ts → Φ (.tup [.str (PySem.Str.ofString "tokens"), .int 0]) m) ∧ (∀ line : Int, Lx z 1 = .inl line → Φ (.tup [.str (PySem.Str.ofString "error"), .int line]) m)

/- _law_good: slots 0=_law_state_here 1=_law_pieces -/
def W__law_good : DS := dSeq (dSet 1 (dLst (dCons (dC (.str (PySem.Str.ofString "a"))) (dCons (dC (.str (PySem.Str.ofString "sum"))) (dCons (dC (.str (PySem.Str.ofString "x1_"))) (dCons (dC (.str (PySem.Str.ofString "="))) (dCons (dC (.str (PySem.Str.ofString "7"))) (dCons (dC (.str (PySem.Str.ofString "=="))) (dCons (dC (.str (PySem.Str.ofString "("))) (dCons (dC (.str (PySem.Str.ofString ")"))) (dCons (dC (.str (PySem.Str.ofString "["))) (dCons (dC (.str (PySem.Str.ofString "<"))) (dCons (dC (.str (PySem.Str.ofString "each"))) (dCons (dC (.str (PySem.Str.ofString "0"))) (dCons (dC (.str (PySem.Str.ofString "9999999999"))) (dCons (dC (.str (PySem.Str.ofString "# 007 $"))) (dCons (dC (.str (PySem.Str.ofString "^"))) (dNil)))))))))))))))))) (dRet (dOp oIx (dVar 1) (dCall 2 C_draw (dCons (dVar 0) (dCons (dCB cLen (dCons (dVar 1) (dNil))) (dNil))))))
/- _law_digits: slots 0=_law_state_here 1=_law_many 2=_law_text -/
def W__law_digits : DS := dSeq (dSet 2 (dOp oIx (dC (.str (PySem.Str.ofString "123456789"))) (dCall 2 C_draw (dCons (dVar 0) (dCons (dC (.int 9)) (dNil)))))) (dSeq (dWhile (dB (dOp oLt (dCB cLen (dCons (dVar 2) (dNil))) (dVar 1))) (dSet 2 (dOp oAdd (dVar 2) (dOp oIx (dC (.str (PySem.Str.ofString "0123456789"))) (dCall 2 C_draw (dCons (dVar 0) (dCons (dC (.int 10)) (dNil)))))))) (dRet (dVar 2)))
/- _law_bad: slots 0=_law_state_here 1=_law_kind 2=_law_marks -/
def W__law_bad : DS := dSeq (dSet 1 (dCall 2 C_draw (dCons (dVar 0) (dCons (dC (.int 6)) (dNil))))) (dSeq (dIf (dB (dOp oLt (dVar 1) (dC (.int 2)))) (dSeq (dSet 2 (dC (.str (PySem.Str.ofString "_>$@?{}\"'!&;|~./")))) (dRet (dOp oIx (dVar 2) (dCall 2 C_draw (dCons (dVar 0) (dCons (dCB cLen (dCons (dVar 2) (dNil))) (dNil))))))) (dNext)) (dSeq (dIf (dB (dOp oEq (dVar 1) (dC (.int 2)))) (dRet (dOp oAdd (dOp oAdd (dOp oIx (dC (.str (PySem.Str.ofString "abcXYZmn"))) (dCall 2 C_draw (dCons (dVar 0) (dCons (dC (.int 8)) (dNil))))) (dOp oMulS (dC (.str (PySem.Str.ofString "a1_Z"))) (dC (.int 4)))) (dOp oMulS (dC (.str (PySem.Str.ofString "q"))) (dCall 2 C_draw (dCons (dVar 0) (dCons (dC (.int 4)) (dNil))))))) (dNext)) (dSeq (dIf (dB (dOp oEq (dVar 1) (dC (.int 3)))) (dRet (dOp oAdd (dOp oAdd (dC (.str (PySem.Str.ofString "0"))) (dOp oIx (dC (.str (PySem.Str.ofString "0123456789"))) (dCall 2 C_draw (dCons (dVar 0) (dCons (dC (.int 10)) (dNil)))))) (dOp oMulS (dC (.str (PySem.Str.ofString "7"))) (dCall 2 C_draw (dCons (dVar 0) (dCons (dC (.int 3)) (dNil))))))) (dNext)) (dSeq (dIf (dB (dOp oEq (dVar 1) (dC (.int 4)))) (dRet (dOp oAdd (dCall 2 C__law_digits (dCons (dVar 0) (dCons (dOp oAdd (dC (.int 1)) (dCall 2 C_draw (dCons (dVar 0) (dCons (dC (.int 9)) (dNil))))) (dNil)))) (dOp oIx (dC (.str (PySem.Str.ofString "a_Zx"))) (dCall 2 C_draw (dCons (dVar 0) (dCons (dC (.int 4)) (dNil))))))) (dNext)) (dRet (dCall 2 C__law_digits (dCons (dVar 0) (dCons (dOp oAdd (dC (.int 11)) (dCall 2 C_draw (dCons (dVar 0) (dCons (dC (.int 8)) (dNil))))) (dNil)))))))))
/- _law_lines: slots 0=_law_state_here 1=_law_text 2=_law_k -/
def W__law_lines : DS := dSeq (dSet 1 (dC (.str (PySem.Str.ofString "")))) (dSeq (dFor (diRng1 (dCons (dCall 2 C_draw (dCons (dVar 0) (dCons (dC (.int 13)) (dNil)))) (dNil))) (dgName 2) (dSeq (dSet 1 (dOp oAdd (dOp oAdd (dVar 1) (dCall 1 C__law_good (dCons (dVar 0) (dNil)))) (dC (.str (PySem.Str.ofString "\n"))))) (dIf (dB (dOp oEq (dCall 2 C_draw (dCons (dVar 0) (dCons (dC (.int 4)) (dNil)))) (dC (.int 0)))) (dSet 1 (dOp oAdd (dVar 1) (dC (.str (PySem.Str.ofString " \n"))))) (dNext)))) (dRet (dOp oAdd (dVar 1) (dOp oMulS (dC (.str (PySem.Str.ofString " "))) (dCall 2 C_draw (dCons (dVar 0) (dCons (dC (.int 3)) (dNil))))))))
/- _law_outcome: slots 0=_law_text 1=_law_actual 2=e -/
def W__law_outcome : DS := dSeq (dTryAs 2 [("TextError", true)] (dSet 1 (dCall 1 C_tokenize (dCons (dVar 0) (dNil)))) (fun a1 d1 c1 => dSeq (dIf (dOr (dNot (dB (dIsE a1 d1 [("TextError", true)] "LayeraskError" c1 (dVar 2)))) (dOr (dNot (dB (dIsE a1 d1 [("TextError", true)] "ValueError" c1 (dVar 2)))) (dB (dCB cIsi (dCons (dXf a1 d1 "line" (dVar 2)) (dCons (dC (.ty "bool")) (dNil))))))) (dRet (dTup (dCons (dC (.str (PySem.Str.ofString "wrong"))) (dCons (dC (.int 0)) (dNil))))) (dNext)) (dRet (dTup (dCons (dC (.str (PySem.Str.ofString "error"))) (dCons (dXf a1 d1 "line" (dVar 2)) (dNil))))))) (dSeq (dIf (dNot (dB (dCB cIsi (dCons (dVar 1) (dCons (dC (.ty "list")) (dNil)))))) (dRet (dTup (dCons (dC (.str (PySem.Str.ofString "wrong"))) (dCons (dC (.int 0)) (dNil))))) (dNext)) (dRet (dTup (dCons (dC (.str (PySem.Str.ofString "tokens"))) (dCons (dC (.int 0)) (dNil))))))
/- law: slots 0=_law_script 1=_law_state_here 2=_law_before 3=_law_bad_here 4=_law_behind 5=_law_line 6=_law_near 7=_law_char -/
def W_law : DS := dSeq (dSet 1 (dCall 1 C_state (dCons (dVar 0) (dNil)))) (dSeq (dSet 2 (dCall 1 C__law_lines (dCons (dVar 1) (dNil)))) (dSeq (dSet 3 (dCall 1 C__law_bad (dCons (dVar 1) (dNil)))) (dSeq (dSet 4 (dOp oIx (dLst (dCons (dC (.str (PySem.Str.ofString ""))) (dCons (dC (.str (PySem.Str.ofString " x"))) (dCons (dC (.str (PySem.Str.ofString "\n= :"))) (dCons (dC (.str (PySem.Str.ofString "\n;"))) (dCons (dC (.str (PySem.Str.ofString " # x"))) (dNil))))))) (dCall 2 C_draw (dCons (dVar 1) (dCons (dC (.int 5)) (dNil)))))) (dSeq (dSet 5 (dOp oAdd (dC (.int 1)) (dCB cLen (dCons (dLc (diStr (dVar 2)) (dgName 7) (dB (dOp oEq (dVar 7) (dC (.str (PySem.Str.ofString "\n"))))) (dVar 7) [7]) (dNil))))) (dSeq (dIf (dB (dOp oNe (dCall 1 C__law_outcome (dCons (dOp oAdd (dOp oAdd (dVar 2) (dVar 3)) (dVar 4)) (dNil))) (dTup (dCons (dC (.str (PySem.Str.ofString "error"))) (dCons (dVar 5) (dNil)))))) (dRet (dC (.bl false))) (dNext)) (dSeq (dSet 6 (dOp oIx (dLst (dCons (dOp oMulS (dC (.str (PySem.Str.ofString "a"))) (dC (.int 16))) (dCons (dC (.str (PySem.Str.ofString "9999999999"))) (dCons (dC (.str (PySem.Str.ofString "0"))) (dCons (dC (.str (PySem.Str.ofString "Z_9"))) (dCons (dC (.str (PySem.Str.ofString "notnot"))) (dCons (dC (.str (PySem.Str.ofString "fields"))) (dNil)))))))) (dCall 2 C_draw (dCons (dVar 1) (dCons (dC (.int 6)) (dNil)))))) (dSeq (dIf (dB (dOp oNe (dCall 1 C__law_outcome (dCons (dOp oAdd (dOp oAdd (dOp oAdd (dOp oAdd (dVar 2) (dC (.str (PySem.Str.ofString "#")))) (dVar 3)) (dC (.str (PySem.Str.ofString "\n")))) (dVar 6)) (dNil))) (dTup (dCons (dC (.str (PySem.Str.ofString "tokens"))) (dCons (dC (.int 0)) (dNil)))))) (dRet (dC (.bl false))) (dNext)) (dRet (dOp oEq (dCall 1 C__law_outcome (dCons (dOp oAdd (dOp oAdd (dVar 2) (dVar 6)) (dC (.str (PySem.Str.ofString " )\n")))) (dNil))) (dTup (dCons (dC (.str (PySem.Str.ofString "tokens"))) (dCons (dC (.int 0)) (dNil)))))))))))))
theorem good_eq : ([.str (PySem.Str.ofString "a"), .str (PySem.Str.ofString "sum"), .str (PySem.Str.ofString "x1_"), .str (PySem.Str.ofString "="), .str (PySem.Str.ofString "7"), .str (PySem.Str.ofString "=="), .str (PySem.Str.ofString "("), .str (PySem.Str.ofString ")"), .str (PySem.Str.ofString "["), .str (PySem.Str.ofString "<"), .str (PySem.Str.ofString "each"), .str (PySem.Str.ofString "0"), .str (PySem.Str.ofString "9999999999"), .str (PySem.Str.ofString "# 007 $"), .str (PySem.Str.ofString "^")] : List D) = goodL.map tS := (congrArg (List.map D.str) (show ([PySem.Str.ofString "a", PySem.Str.ofString "sum", PySem.Str.ofString "x1_", PySem.Str.ofString "=", PySem.Str.ofString "7", PySem.Str.ofString "==", PySem.Str.ofString "(", PySem.Str.ofString ")", PySem.Str.ofString "[", PySem.Str.ofString "<", PySem.Str.ofString "each", PySem.Str.ofString "0", PySem.Str.ofString "9999999999", PySem.Str.ofString "# 007 $", PySem.Str.ofString "^"] : List Str) = goodL.map SX.S by decide +kernel)).trans (by rw [List.map_map]; rfl)
theorem beh_eq : ([.str (PySem.Str.ofString ""), .str (PySem.Str.ofString " x"), .str (PySem.Str.ofString "\n= :"), .str (PySem.Str.ofString "\n;"), .str (PySem.Str.ofString " # x")] : List D) = behL.map tS := (congrArg (List.map D.str) (show ([PySem.Str.ofString "", PySem.Str.ofString " x", PySem.Str.ofString "\n= :", PySem.Str.ofString "\n;", PySem.Str.ofString " # x"] : List Str) = behL.map SX.S by decide +kernel)).trans (by rw [List.map_map]; rfl)
theorem mark_eq : PySem.Str.ofString "_>$@?{}\"'!&;|~./" = SX.S markL := by decide +kernel
theorem rd__law_good : ∀ ds m Φ Ψ, ds.length = 1 → C__law_good ds m Φ Ψ → W__law_good { nx := fun _ m' => Φ .non m', rt := Φ } (fun _ => Ψ) (ds.map some ++ List.replicate (2 - ds.length) none) m := by
  intro ds m Φ Ψ _ h
  obtain ⟨rfl, hs, q⟩ := h
  change W__law_good _ _ [some (.st 0), none] m
  unfold W__law_good
  walk_at "stp"
  rw [good_eq]
  refine ⟨by decide, ?_⟩
  subst h1
  walk_at "dx"
  have hl : goodL.length = 15 := rfl
  refine ⟨15, rfl, hs, by decide, by decide, fun t t0 t1 => ?_⟩
  have hg : goodL[t.toNat]? = some goodL[t.toNat] := List.getElem?_eq_getElem (by omega)
  exact ⟨_, atI_map t0 hg, q _ (List.getElem_mem _)⟩
theorem rd__law_outcome : ∀ ds m Φ Ψ, ds.length = 1 → C__law_outcome ds m Φ Ψ → W__law_outcome { nx := fun _ m' => Φ .non m', rt := Φ } (fun _ => Ψ) (ds.map some ++ List.replicate (3 - ds.length) none) m := by
  intro ds m Φ Ψ _ h
  obtain ⟨z, rfl, hz, hc, q1, q2⟩ := h
  change W__law_outcome _ _ [some (tS z), none, none] m
  unfold W__law_outcome
  walk_at "stp"
  refine ⟨z, rfl, by omega, hc, fun ts ht => ?_, fun line hl => ?_⟩
  · subst h1
    walk_at "dx"
    exact ⟨by decide, q1 ts ht⟩
  · walk_at "dx"
    intro a d
    refine ⟨true, rfl, ?_⟩
    rw [if_neg (by decide)]
    refine ⟨true, rfl, ?_⟩
    rw [if_neg (by decide)]
    refine ⟨_, rfl, ?_⟩
    walk_at "dx"
    exact ⟨_, rfl, by decide, q2 line hl⟩
theorem s_19 : PySem.Str.ofString "123456789" = SX.S [49, 50, 51, 52, 53, 54, 55, 56, 57] := by decide +kernel
theorem rd__law_digits : ∀ ds m Φ Ψ, ds.length = 2 → C__law_digits ds m Φ Ψ → W__law_digits { nx := fun _ m' => Φ .non m', rt := Φ } (fun _ => Ψ) (ds.map some ++ List.replicate (3 - ds.length) none) m := by
  intro ds m Φ Ψ _ h
  obtain ⟨n, rfl, hs, n1, n20, q⟩ := h
  change W__law_digits _ _ [some (.st 0), some (.int (n : Nat)), none] m
  unfold W__law_digits
  rw [s_19, dig_eq]
  walk_at "stp"
  refine ⟨9, rfl, hs, by decide, by decide, fun t t0 t9 => ?_⟩
  dsimp only
  refine ix_txt (l := [49, 50, 51, 52, 53, 54, 55, 56, 57]) (by decide) t0 t9 fun c hc => ?_
  have cD : isD c = true := by
    have z : [49, 50, 51, 52, 53, 54, 55, 56, 57].all isD = true := by decide
    exact List.all_eq_true.mp z c hc
  subst h1
  refine dSeq_k fun k1 h1 => ?_
  unfold dWhile
  refine ⟨fun k ρ m' => ∃ z : List Nat, k = n - z.length ∧ z.length ≤ n ∧ z.all isD = true ∧ z ≠ [] ∧ ρ = [some (.st 0), some (.int (n : Nat)), some (tS z)] ∧ m' = m, ⟨_, [c], rfl, n1, by rw [List.all_cons, cD]; rfl, by simp, rfl, rfl⟩, ?_⟩
  rintro k ρ m' ⟨z, rfl, zl, za, zn, rfl, rfl⟩
  have zL : (SX.S z).length = z.length := SX.S_len _
  dsimp only [tS]
  walk_at "dx"
  refine ⟨by rw [zL]; show _ ≤ 16777216; omega, ?_⟩
  rw [zL]
  by_cases hlt : z.length < n
  · rw [if_pos (by omega)]
    refine ⟨10, rfl, hs, by decide, by decide, fun u u0 u1 => ?_⟩
    dsimp only
    refine ix_txt (l := digL) (by decide) u0 u1 fun d hd => ?_
    have dD : isD d = true := by rw [← in_dig]; exact decide_eq_true hd
    have e : SX.S z ++ (⟨#[d]⟩ : Str) = SX.S (z ++ [d]) := SX.S_cat z [d]
    refine ⟨by show _ + 1 ≤ 16777216; omega, n - (z ++ [d]).length, by rw [List.length_append, List.length_singleton]; omega, z ++ [d], rfl, by rw [List.length_append, List.length_singleton]; omega, by rw [List.all_append, za, List.all_cons, dD]; rfl, by simp, ?_⟩
    rw [e]
    exact ⟨rfl, rfl⟩
  · rw [if_neg (by omega)]
    subst h1
    walk_at "dx"
    exact q z ⟨by omega, za, zn⟩
/-! ### bad parts are refused -/
theorem bad_run {z : List Nat} (hz : z ≠ []) (ha : z.all isR = true) (hn : ∀ line, runTok z line = none) (hl : z.length ≤ 30) : Bad z := by
  refine ⟨fun rest line hr => ?_, fun c hc => ⟨(isR_no (List.all_eq_true.mp ha c hc)).1, isR_lt (List.all_eq_true.mp ha c hc)⟩, hl⟩
  obtain ⟨t1, t2⟩ := tw_all z rest ha fun c r e => by subst e; exact hr
  cases z with
  | nil => exact absurd rfl hz
  | cons c r =>
    rw [List.all_cons, Bool.and_eq_true] at ha
    rw [List.cons_append] at t1 ⊢
    rw [Lx_run ha.1, t1, hn]
theorem bad_mark {c : Nat} (h : c ∈ markL) : Bad [c] := by
  have a : markL.all (fun c => decide (c ≠ 10 ∧ c ≠ 32 ∧ c ≠ 35 ∧ c < 1114112)) = true := by decide
  obtain ⟨h1, h2, h3, h4⟩ := of_decide_eq_true (List.all_eq_true.mp a c h)
  by_cases hu : c = 95
  · subst hu
    exact bad_run (by simp) (by decide) (fun line => by unfold runTok; rfl) (by decide)
  · refine ⟨fun rest line _ => ?_, fun x hx => by rw [List.mem_singleton.mp hx]; exact ⟨h1, h4⟩, (show 1 ≤ 30 by decide)⟩
    have b : markL.all (fun c => decide (c = 95) || (!isR c && signsL.all fun s => decide (s.headD 0 ≠ c) && decide (s ≠ []))) = true := by decide
    have b := List.all_eq_true.mp b c h
    rw [decide_eq_false hu, Bool.false_or, Bool.and_eq_true] at b
    have hs : signF (c :: rest) = [] := by
      unfold signF
      rw [List.find?_eq_none.mpr fun s hs => ?_]
      · rfl
      · have bs := List.all_eq_true.mp b.2 s hs
        rw [Bool.and_eq_true] at bs
        have e1 := of_decide_eq_true bs.1
        have e2 := of_decide_eq_true bs.2
        intro hh
        have hh := of_decide_eq_true hh
        cases s with
        | nil => exact e2 rfl
        | cons d r =>
          rw [List.length_cons, List.take_succ_cons] at hh
          exact e1 (List.cons.inj hh).1.symm
    show Lx (c :: rest) line = _
    rw [Lx_sign h1 h2 h3 (by simpa using b.1), if_pos hs]
theorem digs_R {z : List Nat} (h : z.all isD = true) : z.all isR = true := List.all_eq_true.mpr fun c hc => (D_R (List.all_eq_true.mp h c hc)).1
theorem bad_num {z : List Nat} (hz : z ≠ []) (hR : z.all isR = true) (hh : isL (z.headD 0) = false) (hl : z.length ≤ 30) (hn : (z.length > 10 ∨ (z.length > 1 ∧ z.headD 0 = 48)) ∨ z.all isD = false) : Bad z := bad_run hz hR (fun line => by
  unfold runTok
  rw [if_neg (by rw [hh]; decide)]
  rcases hn with h | h
  · rw [if_pos h]
  · split
    · rfl
    · rw [if_neg (by rw [h]; decide)]) hl
theorem bad_long {z : List Nat} (hR : z.all isR = true) (hh : isL (z.headD 0) = true) (h17 : z.length > 16) (hl : z.length ≤ 30) : Bad z := bad_run (fun e => by rw [e] at h17; exact absurd h17 (by decide)) hR (fun line => by
  unfold runTok
  rw [if_pos hh, if_pos h17]) hl
theorem s_abc : PySem.Str.ofString "abcXYZmn" = SX.S [97, 98, 99, 88, 89, 90, 109, 110] := by decide +kernel
theorem s_a1 : PySem.Str.ofString "a1_Z" = SX.S [97, 49, 95, 90] := by decide +kernel
theorem s_q : PySem.Str.ofString "q" = SX.S [113] := by decide +kernel
theorem s_7 : PySem.Str.ofString "7" = SX.S [55] := by decide +kernel
theorem s_aZ : PySem.Str.ofString "a_Zx" = SX.S [97, 95, 90, 120] := by decide +kernel
theorem reps_all {p : Nat → Bool} {l : List Nat} (h : l.all p = true) : ∀ n, (repS l n).all p = true
  | 0 => rfl
  | n + 1 => by
    show (l ++ repS l n).all p = true
    rw [List.all_append, h, reps_all h n]
    rfl
theorem rd__law_bad : ∀ ds m Φ Ψ, ds.length = 1 → C__law_bad ds m Φ Ψ → W__law_bad { nx := fun _ m' => Φ .non m', rt := Φ } (fun _ => Ψ) (ds.map some ++ List.replicate (3 - ds.length) none) m := by
  intro ds m Φ Ψ _ h
  obtain ⟨rfl, hs, q⟩ := h
  change W__law_bad _ _ [some (.st 0), none, none] m
  unfold W__law_bad
  rw [mark_eq, dig_eq]
  walk_at "stp"
  refine ⟨6, rfl, hs, by decide, by decide, fun k k0 k6 => ?_⟩
  walk_at "nxt"
  by_cases e2 : k < 2
  · rw [if_pos e2]
    refine ⟨by decide +kernel, 16, rfl, hs, by decide, by decide, fun t t0 t1 => ?_⟩
    dsimp only
    exact ix_txt (l := markL) (by decide) t0 t1 fun c hc => q [c] (bad_mark hc)
  rw [if_neg e2]
  walk_at "nxt"
  by_cases e3 : k = 2
  · rw [if_pos e3, s_abc]
    refine ⟨8, rfl, hs, by decide, by decide, fun t t0 t1 => ?_⟩
    dsimp only
    refine ix_txt (l := [97, 98, 99, 88, 89, 90, 109, 110]) (by decide) t0 t1 fun c hc => ?_
    have a : [97, 98, 99, 88, 89, 90, 109, 110].all (fun c => isL c && isR c) = true := by decide
    have a := List.all_eq_true.mp a c hc
    rw [Bool.and_eq_true] at a
    refine ⟨[97, 49, 95, 90], 4, by rw [s_a1]; rfl, rfl, by decide, by decide, ?_⟩
    dsimp only [tS]
    refine ⟨by show 1 + 16 ≤ 16777216; decide, 4, rfl, hs, by decide, by decide, fun n n0 n4 => ?_⟩
    obtain ⟨n, rfl⟩ := Int.eq_ofNat_of_zero_le n0
    refine ⟨[113], n, by rw [s_q]; rfl, rfl, by rw [List.length_singleton]; omega, by omega, ?_⟩
    dsimp only [tS]
    have e : (⟨#[c]⟩ : Str) ++ SX.S (repS [97, 49, 95, 90] 4) ++ SX.S (repS [113] n) = SX.S ([c] ++ repS [97, 49, 95, 90] 4 ++ repS [113] n) := by
      rw [show (⟨#[c]⟩ : Str) = SX.S [c] from rfl, SX.S_cat, SX.S_cat]
    have l2 := repS_len [113] n
    rw [List.length_singleton, Nat.mul_one] at l2
    have l1 : (repS [97, 49, 95, 90] 4).length = 16 := rfl
    rw [e]
    refine ⟨by rw [show (⟨#[c]⟩ : Str) = SX.S [c] from rfl, SX.S_cat, SX.S_len, SX.S_len, List.length_append, List.length_singleton]; show _ ≤ 16777216; omega, q _ (bad_long ?_ ?_ ?_ ?_)⟩
    · rw [List.all_append, List.all_append, reps_all (l := [97, 49, 95, 90]) (by decide), reps_all (l := [113]) (by decide), List.all_cons, a.2]
      rfl
    · exact a.1
    · rw [List.length_append, List.length_append, List.length_singleton]
      omega
    · rw [List.length_append, List.length_append, List.length_singleton]
      omega
  rw [if_neg e3]
  walk_at "nxt"
  by_cases e4 : k = 3
  · rw [if_pos e4]
    refine ⟨10, rfl, hs, by decide, by decide, fun t t0 t1 => ?_⟩
    dsimp only
    refine ix_txt (l := digL) (by decide) t0 t1 fun c hc => ?_
    have cD : isD c = true := by rw [← in_dig]; exact decide_eq_true hc
    refine ⟨by rw [s_0]; show 1 + 1 ≤ 16777216; decide, 3, rfl, hs, by decide, by decide, fun n n0 n3 => ?_⟩
    obtain ⟨n, rfl⟩ := Int.eq_ofNat_of_zero_le n0
    refine ⟨[55], n, by rw [s_7]; rfl, rfl, by rw [List.length_singleton]; omega, by omega, ?_⟩
    dsimp only [tS]
    have e : PySem.Str.ofString "0" ++ (⟨#[c]⟩ : Str) ++ SX.S (repS [55] n) = SX.S ([48] ++ [c] ++ repS [55] n) := by
      rw [s_0, show (⟨#[c]⟩ : Str) = SX.S [c] from rfl, SX.S_cat, SX.S_cat]
    have l2 := repS_len [55] n
    rw [List.length_singleton, Nat.mul_one] at l2
    rw [e]
    refine ⟨by rw [s_0, show (⟨#[c]⟩ : Str) = SX.S [c] from rfl, SX.S_cat, SX.S_len, SX.S_len, List.length_append, List.length_singleton, List.length_singleton]; show _ ≤ 16777216; omega, q _ (bad_num (by simp) ?_ (show isL 48 = false by decide) ?_ (.inl (.inr ⟨?_, rfl⟩)))⟩
    · rw [List.all_append, List.all_append, reps_all (l := [55]) (by decide), List.all_cons, List.all_cons, (D_R cD).1]
      rfl
    · simp only [List.length_append, List.length_cons, List.length_nil]
      omega
    · simp only [List.length_append, List.length_cons, List.length_nil]
      omega
  rw [if_neg e4]
  walk_at "nxt"
  by_cases e5 : k = 4
  · rw [if_pos e5, s_aZ]
    refine ⟨9, rfl, hs, by decide, by decide, fun n n0 n9 => ?_⟩
    obtain ⟨n, rfl⟩ := Int.eq_ofNat_of_zero_le n0
    refine ⟨1 + n, by simp, hs, by omega, by omega, fun z hz => ?_⟩
    obtain ⟨z1, z2, z3⟩ := hz
    walk_at "dx"
    refine ⟨4, rfl, hs, by decide, by decide, fun t t0 t1 => ?_⟩
    dsimp only
    refine ix_txt (l := [97, 95, 90, 120]) (by decide) t0 t1 fun c hc => ?_
    have a : [97, 95, 90, 120].all (fun c => isR c && !isD c) = true := by decide
    have a := List.all_eq_true.mp a c hc
    rw [Bool.and_eq_true] at a
    dsimp only [tS]
    have e : SX.S z ++ (⟨#[c]⟩ : Str) = SX.S (z ++ [c]) := SX.S_cat z [c]
    rw [e]
    refine ⟨by rw [SX.S_len]; show _ + 1 ≤ 16777216; omega, q _ (bad_num (by simp) ?_ ?_ ?_ (.inr ?_))⟩
    · rw [List.all_append, digs_R z2, List.all_cons, a.1]
      rfl
    · cases z with
      | nil => exact absurd rfl z3
      | cons x y =>
        rw [List.all_cons, Bool.and_eq_true] at z2
        exact (D_R z2.1).2
    · rw [List.length_append, List.length_singleton]
      omega
    · rw [List.all_append, List.all_cons, show isD c = false by simpa using a.2]
      simp
  rw [if_neg e5]
  subst h1
  walk_at "dx"
  refine ⟨8, rfl, hs, by decide, by decide, fun n n0 n8 => ?_⟩
  obtain ⟨n, rfl⟩ := Int.eq_ofNat_of_zero_le n0
  refine ⟨11 + n, by simp, hs, by omega, by omega, fun z hz => ?_⟩
  obtain ⟨z1, z2, z3⟩ := hz
  refine q z (bad_num z3 (digs_R z2) ?_ (by omega) (.inl (.inl (by omega))))
  cases z with
  | nil => exact absurd rfl z3
  | cons x y =>
    rw [List.all_cons, Bool.and_eq_true] at z2
    exact (D_R z2.1).2
/-! ### the lines ahead -/
theorem good_pc : ∀ z ∈ goodL, z = [35, 32, 48, 48, 55, 32, 36] ∨ ∃ p : Pc, p.ok ∧ p.txt = z := fun z hz => by
  unfold goodL at hz
  simp only [List.mem_cons, List.not_mem_nil, or_false] at hz
  rcases hz with rfl | rfl | rfl | rfl | rfl | rfl | rfl | rfl | rfl | rfl | rfl | rfl | rfl | rfl | rfl
  · exact .inr ⟨.na [97], ⟨by decide, by decide, by decide, by decide, by simp⟩, rfl⟩
  · exact .inr ⟨.wd [115, 117, 109], (by decide : [115, 117, 109] ∈ wordsL ++ moreL), rfl⟩
  · exact .inr ⟨.na [120, 49, 95], ⟨by decide, by decide, by decide, by decide, by simp⟩, rfl⟩
  · exact .inr ⟨.sg [61], (by decide : [61] ∈ signsL), rfl⟩
  · exact .inr ⟨.nu 7, ⟨by decide, by decide⟩, by decide +kernel⟩
  · exact .inr ⟨.sg [61, 61], (by decide : [61, 61] ∈ signsL), rfl⟩
  · exact .inr ⟨.sg [40], (by decide : [40] ∈ signsL), rfl⟩
  · exact .inr ⟨.sg [41], (by decide : [41] ∈ signsL), rfl⟩
  · exact .inr ⟨.sg [91], (by decide : [91] ∈ signsL), rfl⟩
  · exact .inr ⟨.sg [60], (by decide : [60] ∈ signsL), rfl⟩
  · exact .inr ⟨.wd [101, 97, 99, 104], (by decide : [101, 97, 99, 104] ∈ wordsL ++ moreL), rfl⟩
  · exact .inr ⟨.nu 0, ⟨by decide, by decide⟩, by decide +kernel⟩
  · exact .inr ⟨.nu 9999999999, ⟨by decide, by decide⟩, by decide +kernel⟩
  · exact .inl rfl
  · exact .inr ⟨.sg [94], (by decide : [94] ∈ signsL), rfl⟩
theorem good_small {z : List Nat} (hz : z ∈ goodL) : z.length ≤ 10 ∧ ∀ c ∈ z, c ≠ 10 ∧ c < 1114112 := by
  have a : goodL.all (fun z => decide (z.length ≤ 10 ∧ ∀ c ∈ z, c ≠ 10 ∧ c < 1114112)) = true := by decide +kernel
  exact of_decide_eq_true (List.all_eq_true.mp a z hz)
theorem good_lex {z : List Nat} (hz : z ∈ goodL) (line : Int) : ∃ ds, ∀ rest, Lx (z ++ 10 :: rest) line = preX ds (Lx rest (line + 1)) := by
  rcases good_pc z hz with rfl | ⟨p, hp, rfl⟩
  · refine ⟨[], fun rest => ?_⟩
    show Lx (35 :: ([32, 48, 48, 55, 32, 36] ++ 10 :: rest)) line = _
    rw [Lx_hash, drop_com (by decide), Lx_nl, preX_nil]
  · refine ⟨[tokD p.kind p.val line], fun rest => ?_⟩
    have ok : OKr (some p) (10 :: rest) := ⟨fun _ => by decide, fun _ => by decide⟩
    rw [lex_piece hp ok, Lx_nl]
    exact (preX_nil (x := consX _ _)).symm.trans preX_cons
theorem preX_app {a b : List D} {x : Sum Int (List D)} : preX a (preX b x) = preX (a ++ b) x := by
  cases x with
  | inl e => rfl
  | inr ts =>
    show Sum.inr (a ++ (b ++ ts)) = Sum.inr ((a ++ b) ++ ts)
    rw [List.append_assoc]
theorem Ahead.good {T z : List Nat} {n : Nat} (h : ∃ due, ∀ rest, Lx (T ++ rest) 1 = preX due (Lx rest (1 + (nlN T : Nat)))) (hz : z ∈ goodL) : ∃ due, ∀ rest, Lx ((T ++ z ++ [10]) ++ rest) 1 = preX due (Lx rest (1 + (nlN (T ++ z ++ [10]) : Nat))) := by
  obtain ⟨due, h⟩ := h
  obtain ⟨ds, g⟩ := good_lex hz (1 + (nlN T : Nat))
  refine ⟨due ++ ds, fun rest => ?_⟩
  have hn := nlN_no fun c hc => ((good_small hz).2 c hc).1
  rw [List.append_assoc, List.append_assoc, h, show z ++ ([10] ++ rest) = z ++ 10 :: rest from rfl, g, preX_app, nlN_app, nlN_app, hn, show nlN [10] = 1 from rfl, show (1 : Int) + (nlN T : Nat) + 1 = 1 + ((nlN T + 0 + 1 : Nat) : Int) by omega]
theorem Ahead.sp {T : List Nat} (h : ∃ due, ∀ rest, Lx (T ++ rest) 1 = preX due (Lx rest (1 + (nlN T : Nat)))) : ∃ due, ∀ rest, Lx ((T ++ [32, 10]) ++ rest) 1 = preX due (Lx rest (1 + (nlN (T ++ [32, 10]) : Nat))) := by
  obtain ⟨due, h⟩ := h
  refine ⟨due, fun rest => ?_⟩
  rw [List.append_assoc, h, show [32, 10] ++ rest = 32 :: 10 :: rest from rfl, Lx_sp, Lx_nl, nlN_app, show nlN [32, 10] = 1 from rfl, show (1 : Int) + (nlN T : Nat) + 1 = 1 + ((nlN T + 1 : Nat) : Int) by omega]
theorem Lx_sps : ∀ (n : Nat) (rest : List Nat) (line : Int), Lx (repS [32] n ++ rest) line = Lx rest line
  | 0, rest, line => rfl
  | n + 1, rest, line => by
    show Lx (32 :: (repS [32] n ++ rest)) line = _
    rw [Lx_sp, Lx_sps n]
theorem nl_sps : ∀ n : Nat, nlN (repS [32] n) = 0
  | 0 => rfl
  | n + 1 => by
    show nlN ([32] ++ repS [32] n) = _
    rw [nlN_app, nl_sps n]
    rfl
theorem s_spnl : PySem.Str.ofString " \n" = SX.S [32, 10] := by decide +kernel
theorem rd__law_lines : ∀ ds m Φ Ψ, ds.length = 1 → C__law_lines ds m Φ Ψ → W__law_lines { nx := fun _ m' => Φ .non m', rt := Φ } (fun _ => Ψ) (ds.map some ++ List.replicate (3 - ds.length) none) m := by
  intro ds m Φ Ψ _ h
  obtain ⟨rfl, hs, q⟩ := h
  change W__law_lines _ _ [some (.st 0), none, none] m
  unfold W__law_lines
  walk_at "stp"
  rw [s_no]
  walk_at "nxt"
  refine ⟨13, rfl, hs, by decide, by decide, fun n n0 n1 => ?_⟩
  walk_at "dx"
  refine ⟨⟨by omega, by omega⟩, ?_⟩
  rw [rngD0]
  refine forW_nat (fun i ρ m' => ∃ (T : List Nat) (o : Option D), (∃ due, ∀ rest, Lx (T ++ rest) 1 = preX due (Lx rest (1 + (nlN T : Nat)))) ∧ (∀ c ∈ T, c < 1114112) ∧ T.length ≤ 13 * i ∧ ρ = [some (.st 0), some (tS T), o] ∧ m' = m) ?_ ?_ ⟨[], _, ⟨[], fun rest => preX_nil.symm⟩, fun c hc => (by cases hc), Nat.le_refl _, rfl, rfl⟩
  · rintro i k hi hk ρ m' ⟨T, o, hT, hc, hl, rfl, rfl⟩
    clear h1
    refine dSeq_k fun k1 h1 => ?_
    walk_at "dx"
    refine ⟨rfl, hs, fun z hz => ?_⟩
    obtain ⟨g1, g2⟩ := good_small hz
    dsimp only [tS]
    rw [s_nl, SX.S_cat, SX.S_cat, SX.S_len, SX.S_len, SX.S_len]
    refine ⟨by show _ ≤ 16777216; omega, by rw [List.length_append]; show _ + 1 ≤ 16777216; omega, ?_⟩
    have a1 := Ahead.good (n := 0) hT hz
    have a2 : ∀ c ∈ T ++ z ++ [10], c < 1114112 := fun c h => by
      rcases List.mem_append.mp h with h | h
      · rcases List.mem_append.mp h with h | h
        · exact hc c h
        · exact (g2 c h).2
      · rw [List.mem_singleton.mp h]
        decide
    have a3 : (T ++ z ++ [10]).length ≤ 13 * i + 11 := by
      rw [List.length_append, List.length_append, List.length_singleton]
      omega
    obtain ⟨T2, hT2⟩ : ∃ T2, T2 = T ++ z ++ [10] := ⟨_, rfl⟩
    rw [← hT2] at a1 a2 a3 ⊢
    subst h1
    walk_at "dx"
    refine ⟨4, rfl, hs, by decide, by decide, fun u u0 u4 => ?_⟩
    walk_at "dx"
    by_cases hu : u = 0
    · rw [if_pos hu, s_spnl, SX.S_cat, SX.S_len, SX.S_len]
      refine ⟨by show _ + 2 ≤ 16777216; omega, hk _ _ ⟨T2 ++ [32, 10], _, Ahead.sp a1, fun c h => ?_, by rw [List.length_append]; show _ + 2 ≤ _; omega, rfl, rfl⟩⟩
      rcases List.mem_append.mp h with h | h
      · exact a2 c h
      · have z : [32, 10].all (fun c => decide (c < 1114112)) = true := by decide
        exact of_decide_eq_true (List.all_eq_true.mp z c h)
    · rw [if_neg hu]
      exact hk _ _ ⟨T2, _, a1, a2, by omega, rfl, rfl⟩
  · rintro ρ m' ⟨T, o, ⟨due, hT⟩, hc, hl, rfl, rfl⟩
    subst h1
    walk_at "dx"
    refine ⟨3, rfl, hs, by decide, by decide, fun n n0 n3 => ?_⟩
    obtain ⟨n, rfl⟩ := Int.eq_ofNat_of_zero_le n0
    refine ⟨[32], n, by rw [s_sp]; rfl, rfl, by rw [List.length_singleton]; omega, by omega, ?_⟩
    dsimp only [tS]
    have l2 := repS_len [32] n
    rw [List.length_singleton, Nat.mul_one] at l2
    rw [SX.S_cat, SX.S_len, SX.S_len]
    refine ⟨by show _ ≤ 16777216; omega, q _ ⟨⟨due, fun rest => ?_⟩, fun c h => ?_, by rw [List.length_append]; omega⟩⟩
    · rw [List.append_assoc, hT, Lx_sps, nlN_app, nl_sps, Nat.add_zero]
    · rcases List.mem_append.mp h with h | h
      · exact hc c h
      · obtain ⟨l, hl, h⟩ := List.mem_flatten.mp h
        rw [List.eq_of_mem_replicate hl] at h
        rw [List.mem_singleton.mp h]
        decide
theorem beh_ok : ∀ z ∈ behL, OKb z ∧ (∀ c ∈ z, c < 1114112) ∧ z.length ≤ 5 := fun z hz => by
  have a : behL.all (fun z => (match z with | [] => true | c :: _ => !isR c) && decide ((∀ c ∈ z, c < 1114112) ∧ z.length ≤ 5)) = true := by decide +kernel
  have b := List.all_eq_true.mp a z hz
  rw [Bool.and_eq_true] at b
  refine ⟨?_, of_decide_eq_true b.2⟩
  cases z with
  | nil => trivial
  | cons c r => exact (by simpa using b.1 : isR c = false)
/-- what may stand in the bad part's place -/
structure Near (z : List Nat) : Prop where
  p : ∃ p : Pc, p.ok ∧ p.txt = z ∧ isS p = false
  cd : ∀ c ∈ z, c < 1114112
  len : z.length ≤ 16
theorem near_na {z : List Nat} (h : nameOK z) : Near z := ⟨⟨.na z, h, rfl, rfl⟩, fun c hc => isR_lt (List.all_eq_true.mp h.2.1 c hc), h.2.2.1⟩
theorem near_nu {n : Int} (h : 0 ≤ n ∧ n < 10000000000) : Near (numZ n) := ⟨⟨.nu n, h, rfl, rfl⟩, fun c hc => by have := numZ_range c hc; omega, by have := numZ_len h; omega⟩
theorem near_lex {z rest : List Nat} {line : Int} (h : Near z) (hr : OKb rest) : ∃ t, Lx (z ++ rest) line = consX t (Lx rest line) := by
  obtain ⟨p, hp, rfl, hs⟩ := h.p
  refine ⟨_, lex_piece hp ?_⟩
  cases rest with
  | nil => trivial
  | cons c r => exact ⟨fun _ => hr, fun h => by cases p <;> first | (cases h; done) | (cases hs; done)⟩
theorem s_ht : PySem.Str.ofString "#" = SX.S [35] := by decide
theorem s_end3 : PySem.Str.ofString " )\n" = SX.S [32, 41, 10] := by decide +kernel
theorem err_ok (l : Int) : okE 64 (.tup [.str (PySem.Str.ofString "error"), .int l]) = true := by
  simp only [okE, okEs]
  decide +kernel
theorem near_eq : ([.str (PySem.Str.ofString "9999999999"), .str (PySem.Str.ofString "0"), .str (PySem.Str.ofString "Z_9"), .str (PySem.Str.ofString "notnot"), .str (PySem.Str.ofString "fields")] : List D) = [tS (numZ 9999999999), tS (numZ 0), tS [90, 95, 57], tS [110, 111, 116, 110, 111, 116], tS [102, 105, 101, 108, 100, 115]] := (congrArg (List.map D.str) (show ([PySem.Str.ofString "9999999999", PySem.Str.ofString "0", PySem.Str.ofString "Z_9", PySem.Str.ofString "notnot", PySem.Str.ofString "fields"] : List Str) = [SX.S (numZ 9999999999), SX.S (numZ 0), SX.S [90, 95, 57], SX.S [110, 111, 116, 110, 111, 116], SX.S [102, 105, 101, 108, 100, 115]] by decide +kernel))
theorem s_a : PySem.Str.ofString "a" = SX.S [97] := by decide
theorem ok_tok : okE 64 (.tup [.str (PySem.Str.ofString "tokens"), .int 0]) = true := by decide +kernel
theorem near_all {d : D} (h : d ∈ [tS (repS [97] 16), tS (numZ 9999999999), tS (numZ 0), tS [90, 95, 57], tS [110, 111, 116, 110, 111, 116], tS [102, 105, 101, 108, 100, 115]]) : ∃ y, d = tS y ∧ Near y := by
  simp only [List.mem_cons, List.not_mem_nil, or_false] at h
  rcases h with rfl | rfl | rfl | rfl | rfl | rfl
  · exact ⟨_, rfl, near_na ⟨by decide, by decide, by decide, by decide, by decide⟩⟩
  · exact ⟨_, rfl, near_nu (by decide)⟩
  · exact ⟨_, rfl, near_nu (by decide)⟩
  · exact ⟨_, rfl, near_na ⟨by decide, by decide, by decide, by decide, by decide⟩⟩
  · exact ⟨_, rfl, near_na ⟨by decide, by decide, by decide, by decide, by decide⟩⟩
  · exact ⟨_, rfl, near_na ⟨by decide, by decide, by decide, by decide, by decide⟩⟩
theorem rd_law : ∀ ds m Φ Ψ, ds.length = 1 → CLaw ClawT ds m Φ Ψ → W_law { nx := fun _ m' => Φ .non m', rt := Φ } (fun _ => Ψ) (ds.map some ++ List.replicate (8 - ds.length) none) m := by
  intro ds m Φ Ψ _ h
  obtain ⟨ns, rfl, hlen, rfl, q⟩ := h
  change W_law _ _ [some (.rol (ns.map D.int)), none, none, none, none, none, none, none] _
  unfold W_law
  walk_at "stp"
  refine ⟨⟨ns, rfl, by omega⟩, rfl, ?_⟩
  walk_at "nxt"
  refine ⟨rfl, rfl, fun T hT => ?_⟩
  obtain ⟨⟨due, Tx⟩, Tc, Tl⟩ := hT
  walk_at "nxt"
  refine ⟨rfl, rfl, fun z hz => ?_⟩
  have zl := hz.len
  walk_at "nxt"
  rw [beh_eq]
  refine ⟨by decide, 5, rfl, rfl, by decide, by decide, fun t t0 t5 => ?_⟩
  have hlb : behL.length = 5 := rfl
  have hg : behL[t.toNat]? = some behL[t.toNat] := List.getElem?_eq_getElem (by omega)
  refine ⟨_, atI_map t0 hg, ?_⟩
  obtain ⟨bh, hbh⟩ : ∃ bh, bh = behL[t.toNat] := ⟨_, rfl⟩
  have bm : bh ∈ behL := by rw [hbh]; exact List.getElem_mem _
  rw [← hbh]
  obtain ⟨b1, b2, b3⟩ := beh_ok bh bm
  dsimp only [tS]
  walk_at "nxt"
  refine lcW_fil (inj := sgD) (out := sgD) (fun c : Nat => c) (fun c : Nat => decide (c = 10)) _ T (fun c hcz m2 Θ Υ _ hy hz2 => ?_) (fun _ => rfl) (by show _ ≤ 16777216; omega) ?_
  · walk_at "dx"
    unfold sgD
    refine ⟨okE_S (l := [c]) (fun x hx => by rw [List.mem_singleton.mp hx]; exact Tc c hcz), by rw [s_nl]; exact okE_S (l := [10]) (fun x hx => by rw [List.mem_singleton.mp hx]; decide), ?_⟩
    have eb : eqD (.str ⟨#[c]⟩) (.str (PySem.Str.ofString "\n")) = decide ([c] = [10]) := by rw [s_nl]; exact eqD_S
    by_cases e : c = 10
    · rw [if_pos (eb.trans (by rw [e]; rfl))]
      exact hy (decide_eq_true e)
    · rw [if_neg (fun h => e (List.cons.inj (of_decide_eq_true (eb.symm.trans h))).1)]
      exact hz2 (decide_eq_false e)
  walk_at "dx"
  rw [show (T.filter fun c => decide (c = 10)).length = nlN T from rfl]
  subst h1
  refine dSeq_k fun k1 h1 => ?_
  walk_at "dx"
  rw [SX.S_cat, SX.S_cat, SX.S_len, SX.S_len, SX.S_len, SX.S_len]
  have tz : (T ++ z).length ≤ 330 := by rw [List.length_append]; omega
  refine ⟨by show _ ≤ 16777216; omega, by show _ ≤ 16777216; omega, T ++ z ++ bh, rfl, by rw [List.length_append]; omega, ?_, ?_, ?_⟩
  · intro c hc
    rcases List.mem_append.mp hc with hc | hc
    · rcases List.mem_append.mp hc with hc | hc
      · exact Tc c hc
      · exact (hz.cd c hc).2
    · exact b2 c hc
  · intro ts ht
    rw [List.append_assoc, Tx, hz.er _ _ b1] at ht
    cases ht
  intro line hl
  rw [List.append_assoc, Tx, hz.er _ _ b1] at hl
  have hl : Sum.inl (1 + ((nlN T : Nat) : Int)) = Sum.inl (β := List D) line := hl
  injection hl with hl
  subst hl
  walk_at "dx"
  refine ⟨by decide, err_ok _, err_ok _, ?_⟩
  rw [eqD_self (err_ok _), if_neg (by decide)]
  subst h1
  refine dSeq_k fun k1 h1 => ?_
  walk_at "dx"
  refine ⟨[97], 16, by rw [s_a]; rfl, rfl, by decide, by decide, ?_⟩
  rw [near_eq]
  refine ⟨by decide, 6, rfl, rfl, by decide, by decide, fun t t0 t6 => ?_⟩
  dsimp only
  have key : ∀ y, Near y → k1 [some (D.rol (List.map D.int ns)), some (D.st 0), some (D.str (SX.S T)), some (D.str (SX.S z)), some (D.str (SX.S bh)), some (D.int (1 + ↑(nlN T))), some (tS y), none] { M := [], s := 1 } := by
    intro y hy
    subst h1
    refine dSeq_k fun k1 h1 => ?_
    walk_at "dx"
    dsimp only [tS]
    have hd := hz.cd
    have yl := hy.len
    rw [s_ht, s_nl, SX.S_cat, SX.S_cat, SX.S_cat, SX.S_cat]
    have tl : (T ++ [35] ++ z ++ [10] ++ y).length = T.length + z.length + y.length + 2 := by
      simp only [List.length_append, List.length_cons, List.length_nil]
      omega
    simp only [SX.S_len, List.length_append, List.length_cons, List.length_nil]
    obtain ⟨ky, hky⟩ := near_lex (rest := []) (line := 1 + ((nlN T : Nat) : Int) + 1) hy trivial
    rw [List.append_nil] at hky
    have lx : Lx (T ++ [35] ++ z ++ [10] ++ y) 1 = preX due (consX ky (Lx [] (1 + ((nlN T : Nat) : Int) + 1))) := by
      rw [List.append_assoc, List.append_assoc, List.append_assoc, Tx]
      show preX due (Lx (35 :: (z ++ 10 :: y)) _) = _
      rw [Lx_hash, drop_com fun c hc => (hd c hc).1, Lx_nl, hky]
    refine ⟨by show _ ≤ 16777216; omega, by show _ ≤ 16777216; omega, by show _ ≤ 16777216; omega, by show _ ≤ 16777216; omega, _, rfl, by omega, ?_, fun ts ht => ?_, fun line hl => ?_⟩
    · intro c hc
      simp only [List.mem_append, List.mem_singleton] at hc
      rcases hc with (((hc | rfl) | hc) | rfl) | hc
      · exact Tc c hc
      · decide
      · exact (hd c hc).2
      · decide
      · exact hy.cd c hc
    · refine ⟨by decide, ok_tok, ok_tok, ?_⟩
      rw [eqD_self ok_tok, if_neg (by decide)]
      subst h1
      walk_at "dx"
      rw [s_end3, SX.S_cat, SX.S_cat]
      simp only [SX.S_len, List.length_append, List.length_cons, List.length_nil]
      obtain ⟨kz, hkz⟩ := near_lex (rest := [32, 41, 10]) (line := 1 + ((nlN T : Nat) : Int)) hy (by decide : isR 32 = false)
      have ps : ∃ k, Lx [41, 10] (1 + ((nlN T : Nat) : Int)) = consX k (Lx [10] (1 + ((nlN T : Nat) : Int))) := ⟨_, lex_piece (p := .sg [41]) (rest := [10]) (by decide : [41] ∈ signsL) ⟨fun _ => by decide, fun _ => by decide⟩⟩
      obtain ⟨kp, hkp⟩ := ps
      have lx2 : Lx (T ++ y ++ [32, 41, 10]) 1 = preX due (consX kz (consX kp (Lx [] (1 + ((nlN T : Nat) : Int) + 1)))) := by
        rw [List.append_assoc, Tx, hkz, Lx_sp, hkp, Lx_nl]
      refine ⟨by show _ ≤ 16777216; omega, by show _ ≤ 16777216; omega, _, rfl, by simp only [List.length_append, List.length_cons, List.length_nil]; omega, ?_, fun ts2 ht2 => ?_, fun line hl => ?_⟩
      · intro c hc
        simp only [List.mem_append, List.mem_cons, List.not_mem_nil, or_false] at hc
        rcases hc with (hc | hc) | rfl | rfl | rfl
        · exact Tc c hc
        · exact hy.cd c hc
        · decide
        · decide
        · decide
      · refine ⟨by decide, ok_tok, ok_tok, ?_⟩
        rw [eqD_self ok_tok]
        exact q _
      · rw [lx2, Lx_nil] at hl
        cases hl
    · rw [lx, Lx_nil] at hl
      cases hl
  generalize hlt : [tS (repS [97] 16), tS (numZ 9999999999), tS (numZ 0), tS [90, 95, 57], tS [110, 111, 116, 110, 111, 116], tS [102, 105, 101, 108, 100, 115]] = L at *
  have l6 : L.length = 6 := by rw [← hlt]; rfl
  have hg2 : L[t.toNat]? = some L[t.toNat] := List.getElem?_eq_getElem (by omega)
  obtain ⟨y, e, hy⟩ := near_all (by rw [hlt]; exact List.getElem_mem (l := L) (n := t.toNat) (by omega))
  refine ⟨_, by have h := atI_map (inj := id) t0 hg2; rw [List.map_id] at h; exact h, ?_⟩
  dsimp only [id]
  rw [e]
  exact key y hy

theorem ok_TextError {P : Program} {w : World} {K : PySem.W.Frag} {mg : Str → Option Value} {base : Heap} (T : Txt K mg) : ErrOk P w K mg base "TextError" ["line"] := by
  obtain ⟨m, x, hno, fI, fd, i1, i2, F, b⟩ := T.e_TextError
  exact ⟨m, x, by decide, fI, fd, _, i1, i2, b, err_init1 F sc_TextError_init rfl (fun _ _ _ _ _ _ => ps_expr (pe_binit (by rfl) T.i_TextError.mgb T.i_TextError.ini (pa_cons (pe_var (i := 0) rfl (.inl rfl)) (pa_cons pe_str pa_nil)))) (fun _ _ _ _ _ _ => ps_ost (pe_var (i := 0) rfl (.inl rfl)) (pe_var (i := 1) rfl (.inl rfl))) x (hno "line" (by decide))⟩
theorem ok_is_word {P : Program} {w : World} {K : PySem.W.Frag} {mg : Str → Option Value} {base : Heap} (T : Txt K mg) : Ok P w K mg base "is_word" 1 ["text"] C_is_word := by
  obtain ⟨f, fd, F, hm, b⟩ := T.d_is_word
  exact ⟨f, fd, hm, F.kp, b, okD (W := W_is_word) (k := 0) F sc_is_word (fun cdv A outer s H E hr => jss_one (js_ret (je_or (je_cmp op_in_seq opl_inC (je_var 0) ((je_globT (by rfl) T.k_WORDS)) (by rfl)) (je_one (je_cmp op_in_seq opl_inC (je_var 0) ((je_globT (by rfl) T.k_MORE_WORDS)) (by rfl)))))) rd_is_word⟩
theorem ok_run_end {P : Program} {w : World} {K : PySem.W.Frag} {mg : Str → Option Value} {base : Heap} (T : Txt K mg) : Ok P w K mg base "run_end" 1 ["text", "at"] C_run_end := by
  obtain ⟨f, fd, F, hm, b⟩ := T.d_run_end
  exact ⟨f, fd, hm, F.kp, b, okD (W := W_run_end) (k := 0) F sc_run_end (fun cdv A outer s H E hr => jss_cons (js_set 2 sc_run_end.nd rfl (Or.inl rfl) (je_var 1)) (jss_cons (js_while passD (PW.pt (jw_and (jt_cmp op_lt opl_lt (je_var 2) (je_callB call_len cbl_len (by rfl) T.n_len bt_len (ja_cons (je_var 0) (ja_nil))) (nomark _)) (jw_and1 (jt_cmp op_in_sign opl_inS (je_ix (je_var 0) (je_var 2)) (je_op op_addAll opl_add (je_op op_addAll opl_add ((je_globS (by rfl) T.k_LETTERS)) ((je_globS (by rfl) T.k_DIGITS))) (je_str)) (by rfl))))) (jss_one (js_set 2 sc_run_end.nd rfl (Or.inl rfl) (je_op op_addAll opl_add (je_var 2) (je_int))))) (jss_one (js_ret (je_var 2))))) rd_run_end⟩
theorem ok_run_token {P : Program} {w : World} {K : PySem.W.Frag} {mg : Str → Option Value} {base : Heap} (T : Txt K mg) (G_TextError : ErrOk P w K mg base "TextError" ["line"]) (G_is_word : Ok P w K mg base "is_word" 1 ["text"] C_is_word) : Ok P w K mg base "run_token" 3 ["run", "line"] C_run_token := by
  obtain ⟨f, fd, F, hm, b⟩ := T.d_run_token
  exact ⟨f, fd, hm, F.kp, b, okD (W := W_run_token) (k := 2) F sc_run_token (fun cdv A outer s H E hr => jss_cons (js_if (jt_cmp op_in_sign opl_inS (je_ix (je_var 0) (je_int)) ((je_globS (by rfl) T.k_LETTERS)) (by rfl)) (jss_cons (js_if (jt_cmp op_gt opl_gt (je_callB call_len cbl_len (by rfl) T.n_len bt_len (ja_cons (je_var 0) (ja_nil))) ((je_globE (by rfl) T.k_LONGEST_NAME)) (nomark _)) (jss_one (js_raise (c := "TextError") (fs := ["line"]) rfl takesD G_TextError (by rfl) (hr.mono (by decide)) (ja_cons (je_var 1) (ja_nil)))) (jss_nil)) (jss_one (js_ret (je_tup (ja_cons (je_ifExp (jt_val (je_callO G_is_word takesD (hr.mono (by decide)) (by rfl) (ja_cons (je_var 0) (ja_nil)) 1)) (je_str) (je_str)) (ja_cons (je_var 0) (ja_cons (je_var 1) (ja_nil)))))))) (jss_nil)) (jss_cons (js_if (PW.pt (jw_or (jt_cmp op_gt opl_gt (je_callB call_len cbl_len (by rfl) T.n_len bt_len (ja_cons (je_var 0) (ja_nil))) ((je_globE (by rfl) T.k_LONGEST_NUMBER)) (nomark _)) (jw_or1 (PW.pt (jw_and (jt_cmp op_gt opl_gt (je_callB call_len cbl_len (by rfl) T.n_len bt_len (ja_cons (je_var 0) (ja_nil))) (je_int) (nomark _)) (jw_and1 (jt_cmp (op_eqD hr.units) opl_eq (je_ix (je_var 0) (je_int)) (je_str) (nomark _)))))))) (jss_one (js_raise (c := "TextError") (fs := ["line"]) rfl takesD G_TextError (by rfl) (hr.mono (by decide)) (ja_cons (je_var 1) (ja_nil)))) (jss_nil)) (jss_cons (js_for passD rfl (ji_str (je_var 0)) (jg_name (js := [2]) 2 (by decide) sc_run_token.nd rfl (Or.inl rfl)) (jss_one (js_if (jt_cmp op_notIn_sign opl_notInS (je_var 2) ((je_globS (by rfl) T.k_DIGITS)) (by rfl)) (jss_one (js_raise (c := "TextError") (fs := ["line"]) rfl takesD G_TextError (by rfl) (hr.mono (by decide)) (ja_cons (je_var 1) (ja_nil)))) (jss_nil)))) (jss_one (js_ret (je_tup (ja_cons (je_str) (ja_cons (je_callTy call_int_str cbl_intS (by rfl) T.n_int bt_int (ja_cons (je_var 0) (ja_nil))) (ja_cons (je_var 1) (ja_nil)))))))))) rd_run_token⟩
theorem ok_sign_at {P : Program} {w : World} {K : PySem.W.Frag} {mg : Str → Option Value} {base : Heap} (T : Txt K mg) : Ok P w K mg base "sign_at" 1 ["text", "at"] C_sign_at := by
  obtain ⟨f, fd, F, hm, b⟩ := T.d_sign_at
  exact ⟨f, fd, hm, F.kp, b, okD (W := W_sign_at) (k := 0) F sc_sign_at (fun cdv A outer s H E hr => jss_cons (js_for passD rfl (ji_tup ((je_globT (by rfl) T.k_SIGNS))) (jg_name (js := [2]) 2 (by decide) sc_sign_at.nd rfl (Or.inl rfl)) (jss_one (js_if (jt_cmp (op_eqD hr.units) opl_eq (je_slS (je_var 0) (jo_some (je_var 1)) (jo_some (je_op op_addAll opl_add (je_var 1) (je_callB call_len cbl_len (by rfl) T.n_len bt_len (ja_cons (je_var 2) (ja_nil)))))) (je_var 2) (nomark _)) (jss_one (js_ret (je_var 2))) (jss_nil)))) (jss_one (js_ret (je_str)))) rd_sign_at⟩
theorem ok_tokenize {P : Program} {w : World} {K : PySem.W.Frag} {mg : Str → Option Value} {base : Heap} (T : Txt K mg) (G_TextError : ErrOk P w K mg base "TextError" ["line"]) (G_run_end : Ok P w K mg base "run_end" 1 ["text", "at"] C_run_end) (G_sign_at : Ok P w K mg base "sign_at" 1 ["text", "at"] C_sign_at) (G_run_token : Ok P w K mg base "run_token" 3 ["run", "line"] C_run_token) : Ok P w K mg base "tokenize" 4 ["text"] C_tokenize := by
  obtain ⟨f, fd, F, hm, b⟩ := T.d_tokenize
  exact ⟨f, fd, hm, F.kp, b, okDQ (W := W_tokenize) (k := 3) F sc_tokenize (fun cdv A outer s H E hr => jss_cons (js_set 1 sc_tokenize.nd rfl (Or.inl rfl) (je_lstM (ja_nil))) (jss_cons (js_set 2 sc_tokenize.nd rfl (Or.inl rfl) (je_int)) (jss_cons (js_set 3 sc_tokenize.nd rfl (Or.inl rfl) (je_int)) (jss_cons (js_while passD (jt_cmp op_lt opl_lt (je_var 3) (je_callB call_len cbl_len (by rfl) T.n_len bt_len (ja_cons (je_var 0) (ja_nil))) (nomark _)) (jss_one (js_if (jt_cmp (op_eqD hr.units) opl_eq (je_ix (je_var 0) (je_var 3)) (je_str) (nomark _)) (jss_cons (js_set 2 sc_tokenize.nd rfl (Or.inl rfl) (je_op op_addAll opl_add (je_var 2) (je_int))) (jss_one (js_set 3 sc_tokenize.nd rfl (Or.inl rfl) (je_op op_addAll opl_add (je_var 3) (je_int))))) (jss_one (js_if (jt_cmp (op_eqD hr.units) opl_eq (je_ix (je_var 0) (je_var 3)) (je_str) (nomark _)) (jss_one (js_set 3 sc_tokenize.nd rfl (Or.inl rfl) (je_op op_addAll opl_add (je_var 3) (je_int)))) (jss_one (js_if (jt_cmp (op_eqD hr.units) opl_eq (je_ix (je_var 0) (je_var 3)) (je_str) (nomark _)) (jss_one (js_while passD (PW.pt (jw_and (jt_cmp op_lt opl_lt (je_var 3) (je_callB call_len cbl_len (by rfl) T.n_len bt_len (ja_cons (je_var 0) (ja_nil))) (nomark _)) (jw_and1 (jt_cmp (op_neD hr.units) opl_ne (je_ix (je_var 0) (je_var 3)) (je_str) (nomark _))))) (jss_one (js_set 3 sc_tokenize.nd rfl (Or.inl rfl) (je_op op_addAll opl_add (je_var 3) (je_int)))))) (jss_one (js_if (jt_cmp op_gt opl_gt (je_callO G_run_end takesD (hr.mono (by decide)) (by rfl) (ja_cons (je_var 0) (ja_cons (je_var 3) (ja_nil))) 2) (je_var 3) (nomark _)) (jss_cons (js_set 4 sc_tokenize.nd rfl (Or.inl rfl) (je_callO G_run_end takesD (hr.mono (by decide)) (by rfl) (ja_cons (je_var 0) (ja_cons (je_var 3) (ja_nil))) 2)) (jss_cons (js_expr (je_mL PySem.F.slot_list_append PySem.F.type_list_append mt_append mtl_app (je_var 1) (ja_cons (je_callO G_run_token takesD (hr.mono (by decide)) (by rfl) (ja_cons (je_slS (je_var 0) (jo_some (je_var 3)) (jo_some (je_var 4))) (ja_cons (je_var 2) (ja_nil))) 2) (ja_nil)))) (jss_one (js_set 3 sc_tokenize.nd rfl (Or.inl rfl) (je_var 4))))) (jss_cons (js_set 5 sc_tokenize.nd rfl (Or.inl rfl) (je_callO G_sign_at takesD (hr.mono (by decide)) (by rfl) (ja_cons (je_var 0) (ja_cons (je_var 3) (ja_nil))) 2)) (jss_cons (js_if (jt_cmp (op_eqD hr.units) opl_eq (je_var 5) (je_str) (nomark _)) (jss_one (js_raise (c := "TextError") (fs := ["line"]) rfl takesD G_TextError (by rfl) (hr.mono (by decide)) (ja_cons (je_var 2) (ja_nil)))) (jss_nil)) (jss_cons (js_expr (je_mL PySem.F.slot_list_append PySem.F.type_list_append mt_append mtl_app (je_var 1) (ja_cons (je_tup (ja_cons (je_str) (ja_cons (je_var 5) (ja_cons (je_var 2) (ja_nil))))) (ja_nil)))) (jss_one (js_set 3 sc_tokenize.nd rfl (Or.inl rfl) (je_op op_addAll opl_add (je_var 3) (je_callB call_len cbl_len (by rfl) T.n_len bt_len (ja_cons (je_var 5) (ja_nil)))))))))))))))))) (jss_cons (js_expr (je_mL PySem.F.slot_list_append PySem.F.type_list_append mt_append mtl_app (je_var 1) (ja_cons (je_tup (ja_cons (je_str) (ja_cons (je_str) (ja_cons (je_var 2) (ja_nil))))) (ja_nil)))) (jss_one (js_ret (je_var 1)))))))) rd_tokenize⟩
theorem ok__law_state {P : Program} {w : World} {K : PySem.W.Frag} {mg : Str → Option Value} {base : Heap} (T : Txt K mg) : Ok P w K mg base "_law_state" 1 ["_law_script"] C_state := by
  obtain ⟨f, fd, F, hm, b⟩ := T.d__law_state
  exact state_close ⟨f, fd, hm, F.kp, b, okD (C := C_stateO) (W := W_state) (k := 0) F sc__law_state (fun cdv A outer s H E hr => jss_cons (js_set 1 sc__law_state.nd rfl (Or.inl rfl) (je_int)) (jss_cons (js_for passD rfl (ji_list (je_var 0)) (jg_name (js := [2]) 2 (by decide) sc__law_state.nd rfl (Or.inl rfl)) (jss_one (js_set 1 sc__law_state.nd rfl (Or.inl rfl) (je_op op_mod opl_mod (je_callTy call_int1 cbl_int (by rfl) T.n_int bt_int (ja_cons (je_op op_addAll opl_add (je_op op_mulC opl_mul (je_var 1) (je_int)) (je_var 2)) (ja_nil))) (je_int))))) (jss_one (js_ret (je_lstM (ja_cons (je_lcM (own := [("_law_cell", 2)]) rfl sc__law_state.nd (ji_list (je_var 0)) (blkOk_by (N := ["_law_script", "_law_seed", "_law_cell"]) (sc := defScope s__law_state) (by decide +kernel)) (fun _ _ _ _ _ => jg_name (js := [2]) 2 (by decide) sc__law_state.nd rfl (Or.inl rfl)) (fun _ _ _ _ _ => jts_nil) (fun _ _ _ _ _ => je_callB call_abs cbl_abs (by rfl) T.n_abs bt_abs (ja_cons (je_var 2) (ja_nil)))) (ja_cons (je_op op_addAll opl_add (je_var 1) (je_int)) (ja_nil)))))))) rd_state⟩
theorem ok__law_draw {P : Program} {w : World} {K : PySem.W.Frag} {mg : Str → Option Value} {base : Heap} (T : Txt K mg) : Ok P w K mg base "_law_draw" 1 ["_law_state_here", "_law_many"] C_draw := by
  obtain ⟨f, fd, F, hm, b⟩ := T.d__law_draw
  exact draw_close ⟨f, fd, hm, F.kp, b, okD (C := C_drawO) (W := W_draw1) (k := 0) F sc__law_draw (fun cdv A outer s H E hr => jss_cons (js_set 2 sc__law_draw.nd rfl (Or.inl rfl) (je_ix (je_var 0) (je_int))) (jss_cons (js_while passD (PW.pt (jw_and (jt_cmp op_gt opl_gt (je_callB call_len cbl_len (by rfl) T.n_len bt_len (ja_cons (je_var 2) (ja_nil))) (je_int) (nomark _)) (jw_and1 (jt_cmp (op_eqD hr.units) opl_eq (je_ix (je_var 2) (je_int)) (je_int) (nomark _))))) (jss_one (js_expr (je_mL PySem.F.slot_list_pop PySem.F.type_list_pop mt_popAt mtl_popAt (je_var 2) (ja_cons (je_int) (ja_nil)))))) (jss_cons (js_if (jt_cmp op_gt opl_gt (je_callB call_len cbl_len (by rfl) T.n_len bt_len (ja_cons (je_var 2) (ja_nil))) (je_int) (nomark _)) (jss_cons (js_set 4 sc__law_draw.nd rfl (Or.inl rfl) (je_ix (je_var 2) (je_int))) (jss_cons (js_setIx (je_op op_fdivW opl_div (je_var 4) (je_var 1)) (je_var 2) (je_int) (pg_sub (je_var 2) (je_int) set_list)) (jss_one (js_ret (je_op op_mod opl_mod (je_callTy call_int1 cbl_int (by rfl) T.n_int bt_int (ja_cons (je_var 4) (ja_nil))) (je_var 1)))))) (jss_nil)) (jss_cons (js_set 3 sc__law_draw.nd rfl (Or.inl rfl) (je_op op_mod opl_mod (je_callTy call_int1 cbl_int (by rfl) T.n_int bt_int (ja_cons (je_op op_addAll opl_add (je_op op_mulC opl_mul (je_ix (je_var 0) (je_int)) (je_int)) (je_int)) (ja_nil))) (je_int))) (jss_cons (js_setIx (je_var 3) (je_var 0) (je_int) (pg_sub (je_var 0) (je_int) set_list)) (jss_one (js_ret (je_op op_mod opl_mod (je_callTy call_int1 cbl_int (by rfl) T.n_int bt_int (ja_cons (je_op op_fdivW opl_div (je_var 3) (je_int)) (ja_nil))) (je_var 1))))))))) rd_draw1⟩
theorem ok__law_good {P : Program} {w : World} {K : PySem.W.Frag} {mg : Str → Option Value} {base : Heap} (T : Txt K mg) (G__law_draw : Ok P w K mg base "_law_draw" 1 ["_law_state_here", "_law_many"] C_draw) : Ok P w K mg base "_law_good" 2 ["_law_state_here"] C__law_good := by
  obtain ⟨f, fd, F, hm, b⟩ := T.d__law_good
  exact ⟨f, fd, hm, F.kp, b, okD (W := W__law_good) (k := 1) F sc__law_good (fun cdv A outer s H E hr => jss_cons (js_set 1 sc__law_good.nd rfl (Or.inl rfl) (je_lst (ja_cons (je_str) (ja_cons (je_str) (ja_cons (je_str) (ja_cons (je_str) (ja_cons (je_str) (ja_cons (je_str) (ja_cons (je_str) (ja_cons (je_str) (ja_cons (je_str) (ja_cons (je_str) (ja_cons (je_str) (ja_cons (je_str) (ja_cons (je_str) (ja_cons (je_str) (ja_cons (je_str) (ja_nil)))))))))))))))))) (jss_one (js_ret (je_ix (je_var 1) (je_callO G__law_draw takesD (hr.mono (by decide)) (by rfl) (ja_cons (je_var 0) (ja_cons (je_callB call_len cbl_len (by rfl) T.n_len bt_len (ja_cons (je_var 1) (ja_nil))) (ja_nil))) 2))))) rd__law_good⟩
theorem ok__law_digits {P : Program} {w : World} {K : PySem.W.Frag} {mg : Str → Option Value} {base : Heap} (T : Txt K mg) (G__law_draw : Ok P w K mg base "_law_draw" 1 ["_law_state_here", "_law_many"] C_draw) : Ok P w K mg base "_law_digits" 2 ["_law_state_here", "_law_many"] C__law_digits := by
  obtain ⟨f, fd, F, hm, b⟩ := T.d__law_digits
  exact ⟨f, fd, hm, F.kp, b, okD (W := W__law_digits) (k := 1) F sc__law_digits (fun cdv A outer s H E hr => jss_cons (js_set 2 sc__law_digits.nd rfl (Or.inl rfl) (je_ix (je_str) (je_callO G__law_draw takesD (hr.mono (by decide)) (by rfl) (ja_cons (je_var 0) (ja_cons (je_int) (ja_nil))) 2))) (jss_cons (js_while passD (jt_cmp op_lt opl_lt (je_callB call_len cbl_len (by rfl) T.n_len bt_len (ja_cons (je_var 2) (ja_nil))) (je_var 1) (nomark _)) (jss_one (js_set 2 sc__law_digits.nd rfl (Or.inl rfl) (je_op op_addAll opl_add (je_var 2) (je_ix (je_str) (je_callO G__law_draw takesD (hr.mono (by decide)) (by rfl) (ja_cons (je_var 0) (ja_cons (je_int) (ja_nil))) 2)))))) (jss_one (js_ret (je_var 2))))) rd__law_digits⟩
theorem ok__law_bad {P : Program} {w : World} {K : PySem.W.Frag} {mg : Str → Option Value} {base : Heap} (T : Txt K mg) (G__law_draw : Ok P w K mg base "_law_draw" 1 ["_law_state_here", "_law_many"] C_draw) (G__law_digits : Ok P w K mg base "_law_digits" 2 ["_law_state_here", "_law_many"] C__law_digits) : Ok P w K mg base "_law_bad" 3 ["_law_state_here"] C__law_bad := by
  obtain ⟨f, fd, F, hm, b⟩ := T.d__law_bad
  exact ⟨f, fd, hm, F.kp, b, okD (W := W__law_bad) (k := 2) F sc__law_bad (fun cdv A outer s H E hr => jss_cons (js_set 1 sc__law_bad.nd rfl (Or.inl rfl) (je_callO G__law_draw takesD (hr.mono (by decide)) (by rfl) (ja_cons (je_var 0) (ja_cons (je_int) (ja_nil))) 2)) (jss_cons (js_if (jt_cmp op_lt opl_lt (je_var 1) (je_int) (nomark _)) (jss_cons (js_set 2 sc__law_bad.nd rfl (Or.inl rfl) (je_str)) (jss_one (js_ret (je_ix (je_var 2) (je_callO G__law_draw takesD (hr.mono (by decide)) (by rfl) (ja_cons (je_var 0) (ja_cons (je_callB call_len cbl_len (by rfl) T.n_len bt_len (ja_cons (je_var 2) (ja_nil))) (ja_nil))) 2))))) (jss_nil)) (jss_cons (js_if (jt_cmp (op_eqD hr.units) opl_eq (je_var 1) (je_int) (nomark _)) (jss_one (js_ret (je_op op_addAll opl_add (je_op op_addAll opl_add (je_ix (je_str) (je_callO G__law_draw takesD (hr.mono (by decide)) (by rfl) (ja_cons (je_var 0) (ja_cons (je_int) (ja_nil))) 2)) (je_op op_mulS opl_mulS (je_str) (je_int))) (je_op op_mulS opl_mulS (je_str) (je_callO G__law_draw takesD (hr.mono (by decide)) (by rfl) (ja_cons (je_var 0) (ja_cons (je_int) (ja_nil))) 2))))) (jss_nil)) (jss_cons (js_if (jt_cmp (op_eqD hr.units) opl_eq (je_var 1) (je_int) (nomark _)) (jss_one (js_ret (je_op op_addAll opl_add (je_op op_addAll opl_add (je_str) (je_ix (je_str) (je_callO G__law_draw takesD (hr.mono (by decide)) (by rfl) (ja_cons (je_var 0) (ja_cons (je_int) (ja_nil))) 2))) (je_op op_mulS opl_mulS (je_str) (je_callO G__law_draw takesD (hr.mono (by decide)) (by rfl) (ja_cons (je_var 0) (ja_cons (je_int) (ja_nil))) 2))))) (jss_nil)) (jss_cons (js_if (jt_cmp (op_eqD hr.units) opl_eq (je_var 1) (je_int) (nomark _)) (jss_one (js_ret (je_op op_addAll opl_add (je_callO G__law_digits takesD (hr.mono (by decide)) (by rfl) (ja_cons (je_var 0) (ja_cons (je_op op_addAll opl_add (je_int) (je_callO G__law_draw takesD (hr.mono (by decide)) (by rfl) (ja_cons (je_var 0) (ja_cons (je_int) (ja_nil))) 2)) (ja_nil))) 2) (je_ix (je_str) (je_callO G__law_draw takesD (hr.mono (by decide)) (by rfl) (ja_cons (je_var 0) (ja_cons (je_int) (ja_nil))) 2))))) (jss_nil)) (jss_one (js_ret (je_callO G__law_digits takesD (hr.mono (by decide)) (by rfl) (ja_cons (je_var 0) (ja_cons (je_op op_addAll opl_add (je_int) (je_callO G__law_draw takesD (hr.mono (by decide)) (by rfl) (ja_cons (je_var 0) (ja_cons (je_int) (ja_nil))) 2)) (ja_nil))) 2)))))))) rd__law_bad⟩
theorem ok__law_lines {P : Program} {w : World} {K : PySem.W.Frag} {mg : Str → Option Value} {base : Heap} (T : Txt K mg) (G__law_draw : Ok P w K mg base "_law_draw" 1 ["_law_state_here", "_law_many"] C_draw) (G__law_good : Ok P w K mg base "_law_good" 2 ["_law_state_here"] C__law_good) : Ok P w K mg base "_law_lines" 3 ["_law_state_here"] C__law_lines := by
  obtain ⟨f, fd, F, hm, b⟩ := T.d__law_lines
  exact ⟨f, fd, hm, F.kp, b, okD (W := W__law_lines) (k := 2) F sc__law_lines (fun cdv A outer s H E hr => jss_cons (js_set 1 sc__law_lines.nd rfl (Or.inl rfl) (je_str)) (jss_cons (js_for passD rfl (ji_range1 (by rfl) T.n_range (ja_cons (je_callO G__law_draw takesD (hr.mono (by decide)) (by rfl) (ja_cons (je_var 0) (ja_cons (je_int) (ja_nil))) 2) (ja_nil))) (jg_name (js := [2]) 2 (by decide) sc__law_lines.nd rfl (Or.inl rfl)) (jss_cons (js_set 1 sc__law_lines.nd rfl (Or.inl rfl) (je_op op_addAll opl_add (je_op op_addAll opl_add (je_var 1) (je_callO G__law_good takesD (hr.mono (by decide)) (by rfl) (ja_cons (je_var 0) (ja_nil)) 1)) (je_str))) (jss_one (js_if (jt_cmp (op_eqD hr.units) opl_eq (je_callO G__law_draw takesD (hr.mono (by decide)) (by rfl) (ja_cons (je_var 0) (ja_cons (je_int) (ja_nil))) 2) (je_int) (nomark _)) (jss_one (js_set 1 sc__law_lines.nd rfl (Or.inl rfl) (je_op op_addAll opl_add (je_var 1) (je_str)))) (jss_nil))))) (jss_one (js_ret (je_op op_addAll opl_add (je_var 1) (je_op op_mulS opl_mulS (je_str) (je_callO G__law_draw takesD (hr.mono (by decide)) (by rfl) (ja_cons (je_var 0) (ja_cons (je_int) (ja_nil))) 2))))))) rd__law_lines⟩
theorem ok__law_outcome {P : Program} {w : World} {K : PySem.W.Frag} {mg : Str → Option Value} {base : Heap} (T : Txt K mg) (G_tokenize : Ok P w K mg base "tokenize" 4 ["text"] C_tokenize) : Ok P w K mg base "_law_outcome" 5 ["_law_text"] C__law_outcome := by
  obtain ⟨f, fd, F, hm, b⟩ := T.d__law_outcome
  exact ⟨f, fd, hm, F.kp, b, okD (W := W__law_outcome) (k := 4) F sc__law_outcome (fun cdv A outer s H E hr => jss_cons (js_try_as (B := "TextError") (L := [("TextError", true)]) 2 sc__law_outcome.nd rfl takesD (by rfl) T.g_TextError T.x_TextError (fun _ _ _ tk1 hp1 => jss_one (js_set 1 sc__law_outcome.nd rfl (Or.inl rfl) (je_callO G_tokenize tk1 (hr.mono (by decide)) (by rfl) (ja_cons (je_var 0) (ja_nil)) 1))) (fun a1 _ c1 d1 _ hl1 hz1 hf1 => jss_cons (js_if (PW.pt (jw_or (jt_not (jt_val (je_isE (B := "LayeraskError") (L := [("TextError", true)]) (T.s_TextError c1 _ hl1).1 T.x_LayeraskError hz1 hf1 (by rfl) T.n_isinstance (by rfl) T.g_LayeraskError (je_var 2)))) (jw_or (jt_not (jt_val (je_isEV (B := "ValueError") (L := [("TextError", true)]) (T.s_TextError c1 _ hl1).1 T.v_ValueError hz1 hf1 (by rfl) T.n_isinstance (by rfl) T.n_ValueError (by rfl) (je_var 2)))) (jw_or1 (jt_val (je_callB call_isi cbl_isi (by rfl) T.n_isinstance bt_isinstance (ja_cons (je_xf (f := "line") (T.s_TextError c1 _ hl1).1 ((T.s_TextError c1 _ hl1).2 "line" (by decide)) hz1 hf1 (je_var 2)) (ja_cons (je_ty (n := "bool") (by rfl) T.n_bool bt_bool) (ja_nil))))))))) (jss_one (js_ret (je_tup (ja_cons (je_str) (ja_cons (je_int) (ja_nil)))))) (jss_nil)) (jss_one (js_ret (je_tup (ja_cons (je_str) (ja_cons (je_xf (f := "line") (T.s_TextError c1 _ hl1).1 ((T.s_TextError c1 _ hl1).2 "line" (by decide)) hz1 hf1 (je_var 2)) (ja_nil)))))))) (jss_cons (js_if (jt_not (jt_val (je_callB call_isi cbl_isi (by rfl) T.n_isinstance bt_isinstance (ja_cons (je_var 1) (ja_cons (je_ty (n := "list") (by rfl) T.n_list bt_list) (ja_nil)))))) (jss_one (js_ret (je_tup (ja_cons (je_str) (ja_cons (je_int) (ja_nil)))))) (jss_nil)) (jss_one (js_ret (je_tup (ja_cons (je_str) (ja_cons (je_int) (ja_nil)))))))) rd__law_outcome⟩
theorem ok_law {P : Program} {w : World} {K : PySem.W.Frag} {mg : Str → Option Value} {base : Heap} {f : Addr} {fd : FuncData} (T : Txt K mg) (G__law_state : Ok P w K mg base "_law_state" 1 ["_law_script"] C_state) (G__law_lines : Ok P w K mg base "_law_lines" 3 ["_law_state_here"] C__law_lines) (G__law_bad : Ok P w K mg base "_law_bad" 3 ["_law_state_here"] C__law_bad) (G__law_draw : Ok P w K mg base "_law_draw" 1 ["_law_state_here", "_law_many"] C_draw) (G__law_outcome : Ok P w K mg base "_law_outcome" 5 ["_law_text"] C__law_outcome) (F : Fun K "law" "law" s_law f fd) : FnOk P w K mg base (L2.CX P w) 6 f fd ["_law_script"] (spOf K 1 (CLaw ClawT)) :=
  okD (W := W_law) (k := 5) F sc_law (fun cdv A outer s H E hr => jss_cons (js_set 1 sc_law.nd rfl (Or.inl rfl) (je_callO G__law_state takesD (hr.mono (by decide)) (by rfl) (ja_cons (je_var 0) (ja_nil)) 1)) (jss_cons (js_set 2 sc_law.nd rfl (Or.inl rfl) (je_callO G__law_lines takesD (hr.mono (by decide)) (by rfl) (ja_cons (je_var 1) (ja_nil)) 1)) (jss_cons (js_set 3 sc_law.nd rfl (Or.inl rfl) (je_callO G__law_bad takesD (hr.mono (by decide)) (by rfl) (ja_cons (je_var 1) (ja_nil)) 1)) (jss_cons (js_set 4 sc_law.nd rfl (Or.inl rfl) (je_ix (je_lst (ja_cons (je_str) (ja_cons (je_str) (ja_cons (je_str) (ja_cons (je_str) (ja_cons (je_str) (ja_nil))))))) (je_callO G__law_draw takesD (hr.mono (by decide)) (by rfl) (ja_cons (je_var 1) (ja_cons (je_int) (ja_nil))) 2))) (jss_cons (js_set 5 sc_law.nd rfl (Or.inl rfl) (je_op op_addAll opl_add (je_int) (je_callB call_len cbl_len (by rfl) T.n_len bt_len (ja_cons (je_lc (own := [("_law_char", 7)]) rfl sc_law.nd (ji_str (je_var 2)) (blkOk_by (N := ["_law_script", "_law_state_here", "_law_before", "_law_bad_here", "_law_behind", "_law_line", "_law_near", "_law_char"]) (sc := defScope s_law) (by decide +kernel)) (fun _ _ _ _ _ => jg_name (js := [7]) 7 (by decide) sc_law.nd rfl (Or.inl rfl)) (fun _ _ _ _ _ => jts_one (jt_cmp (op_eqD hr.units) opl_eq (je_var 7) (je_str) (nomark _))) (fun _ _ _ _ _ => je_var 7)) (ja_nil))))) (jss_cons (js_if (jt_cmp (op_neD hr.units) opl_ne (je_callO G__law_outcome takesD (hr.mono (by decide)) (by rfl) (ja_cons (je_op op_addAll opl_add (je_op op_addAll opl_add (je_var 2) (je_var 3)) (je_var 4)) (ja_nil)) 1) (je_tup (ja_cons (je_str) (ja_cons (je_var 5) (ja_nil)))) (nomark _)) (jss_one (js_ret (je_bl))) (jss_nil)) (jss_cons (js_set 6 sc_law.nd rfl (Or.inl rfl) (je_ix (je_lst (ja_cons (je_op op_mulS opl_mulS (je_str) (je_int)) (ja_cons (je_str) (ja_cons (je_str) (ja_cons (je_str) (ja_cons (je_str) (ja_cons (je_str) (ja_nil)))))))) (je_callO G__law_draw takesD (hr.mono (by decide)) (by rfl) (ja_cons (je_var 1) (ja_cons (je_int) (ja_nil))) 2))) (jss_cons (js_if (jt_cmp (op_neD hr.units) opl_ne (je_callO G__law_outcome takesD (hr.mono (by decide)) (by rfl) (ja_cons (je_op op_addAll opl_add (je_op op_addAll opl_add (je_op op_addAll opl_add (je_op op_addAll opl_add (je_var 2) (je_str)) (je_var 3)) (je_str)) (je_var 6)) (ja_nil)) 1) (je_tup (ja_cons (je_str) (ja_cons (je_int) (ja_nil)))) (nomark _)) (jss_one (js_ret (je_bl))) (jss_nil)) (jss_one (js_ret (je_cmp (op_eqD hr.units) opl_eq (je_callO G__law_outcome takesD (hr.mono (by decide)) (by rfl) (ja_cons (je_op op_addAll opl_add (je_op op_addAll opl_add (je_var 2) (je_var 6)) (je_str)) (ja_nil)) 1) (je_tup (ja_cons (je_str) (ja_cons (je_int) (ja_nil)))) (nomark _)))))))))))) rd_law
theorem all_ok {P : Program} {w : World} {K : PySem.W.Frag} {mg : Str → Option Value} {base : Heap} {f : Addr} {fd : FuncData} (T : Txt K mg) (F : Fun K "law" "law" s_law f fd) : FnOk P w K mg base (L2.CX P w) 6 f fd ["_law_script"] (spOf K 1 (CLaw ClawT)) := by
  have G_TextError := ok_TextError (P := P) (w := w) (base := base) T
  have G__law_state := ok__law_state (P := P) (w := w) (base := base) T
  have G__law_draw := ok__law_draw (P := P) (w := w) (base := base) T
  have G__law_good := ok__law_good (P := P) (w := w) (base := base) T G__law_draw
  have G__law_lines := ok__law_lines (P := P) (w := w) (base := base) T G__law_draw G__law_good
  have G__law_digits := ok__law_digits (P := P) (w := w) (base := base) T G__law_draw
  have G__law_bad := ok__law_bad (P := P) (w := w) (base := base) T G__law_draw G__law_digits
  have G_run_end := ok_run_end (P := P) (w := w) (base := base) T
  have G_sign_at := ok_sign_at (P := P) (w := w) (base := base) T
  have G_is_word := ok_is_word (P := P) (w := w) (base := base) T
  have G_run_token := ok_run_token (P := P) (w := w) (base := base) T G_TextError G_is_word
  have G_tokenize := ok_tokenize (P := P) (w := w) (base := base) T G_TextError G_run_end G_sign_at G_run_token
  have G__law_outcome := ok__law_outcome (P := P) (w := w) (base := base) T G_tokenize
  exact ok_law T G__law_state G__law_lines G__law_bad G__law_draw G__law_outcome F
theorem law_fin {l : PySem.W.OpenLaw} {w : World} {K : PySem.W.Frag} {mg : Str → Option Value} {fa : Addr} (T : Txt K mg) (hfa : mg "law" = some (.ref fa)) : ∃ fd : FuncData, (∀ (s : Shared) (v : Value), BindsTo s fd ⟨[v], []⟩ [("_law_script", v)]) ∧
    ∀ base : Heap, K.In base → base.Ns mainGlobals mg → FnOk l.prog w K mg base (L2.CX l.prog w) 6 fa fd ["_law_script"] (spOf K 1 (CLaw ClawT)) := by
  obtain ⟨f, fd, F, hm, b⟩ := T.d_law
  have e := hfa.symm.trans hm
  cases e
  exact ⟨fd, fun s v => .of_eq (b [v] rfl), fun base _ _ => all_ok T F⟩
end K42
open PySem PySem.W PyProof.Rows
open PySem PySem.W PySem.Calls PyProof.Rows
theorem PySem.Challenge.cw_layerask_k42_errors_of_tokens_holds : PySem.Challenge.rw_layerask_k42_errors_of_tokens.Holds := by
  refine K42.pre ?hc
  case hc =>
    refine Dl.walk_DE (l := PySem.Challenge.rw_layerask_k42_errors_of_tokens) (k := 6) (x := "_law_script") rfl rfl ⟨rfl, by decide, by decide⟩ ?F
    case F =>
      intro w mg fa h Y G hmg0
      obtain ⟨K, KX, c⟩ := Y
      have hmg : mg ("law" : PySem.Str) = some (.ref fa) := by
        have e : (HandSHeadRun.topDef (PySem.W.OpenLaw.row PySem.Challenge.rw_layerask_k42_errors_of_tokens).prog 24).name = ("law" : PySem.Str) := by kernel_rfl
        rw [← e]
        exact hmg0
      obtain ⟨fd, hb, hF⟩ := K42.law_fin (l := PySem.Challenge.rw_layerask_k42_errors_of_tokens) (w := w) (K42.he_txt KX G c) hmg
      exact ⟨K, fd, KX, hb, hF⟩
