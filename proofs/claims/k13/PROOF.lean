import PyProof.Rows.All
import Wide.All
import OpenK.AllK
import Wide.FinOn
import HandS.ForMost
import HandS.Walk
import HandS.Wide
import HandS.TupAny
import HandS.Flow
import HandS.Defaults
import HandS.MakeKw
import HandS.MakeKwOnly
import PyProof.ReprRoads
import HandS.DictSub
import PyProof.Rows.Range3
import PyProof.StrLawsRepr
import PySem.Challenge.RW_quotahours_k13_pools_through_deeds
set_option Elab.async false
set_option linter.all false
set_option autoImplicit false
set_option maxRecDepth 100000
set_option maxHeartbeats 4000000
/-! The data layer: tuples, lists that nobody changes, and texts are values; what is changed stands in a list of objects, by its number. -/
namespace FL
open PySem L2

inductive D where
  | non : D
  | bl (b : Bool) : D
  | int (i : Int) : D
  | str (x : Str) : D
  | ty (n : String) : D
  | obj (a : Addr) : D
  | ref (i : Nat) : D
  | scr (ds : List D) : D
  | tup (ds : List D) : D
  | lst (ds : List D) : D
  | dct (ks : List Key) (ds : List D) : D
  | ins (C : Addr) (ns : List Str) (ds : List D) : D

inductive O where
  | lst (ds : List D) : O
  | dct (kvs : List (Key × D)) : O
  | ins (C : Addr) (fs : List (Str × D)) : O

abbrev Fg := PySem.W.Frag
abbrev No : Hp := fun _ => none
abbrev DS := List (Option D)
abbrev OS := List O

def ST (K : Fg) (H : Hp) (I : List Addr) (p : Addr) (xs : List V) : Prop := (Rd H p (.tup xs) ∧ p ∉ I) ∨ SqT K No p xs
def SZ (K : Fg) (H : Hp) (I : List Addr) (p : Addr) (xs : List V) : Prop := (∃ o, H p = some (.frz o (.lst xs)) ∧ p ∉ I) ∨ SqL K No p xs

mutual
inductive RD (K : Fg) (H : Hp) (I : List Addr) : D → V → Prop where
  | non : RD K H I .non .non
  | bl (b : Bool) : RD K H I (.bl b) (.bl b)
  | int (i : Int) : RD K H I (.int i) (.int i)
  | str (x : Str) : RD K H I (.str x) (.str x)
  | ty (n : String) : RD K H I (.ty n) (.ty n)
  | obj (a : Addr) : RD K H I (.obj a) (.ref a)
  | ref {i : Nat} {a : Addr} (h : I[i]? = some a) : RD K H I (.ref i) (.ref a)
  | scr {p : Addr} {xs : List V} {ds : List D} (h : SZ K H I p xs) (r : RDs K H I ds xs) : RD K H I (.scr ds) (.ref p)
  | tup {p : Addr} {xs : List V} {ds : List D} (h : ST K H I p xs) (r : RDs K H I ds xs) : RD K H I (.tup ds) (.ref p)
  | lst {p : Addr} {xs : List V} {ds : List D} (h : H p = some (.lst xs)) (n : p ∉ I) (r : RDs K H I ds xs) : RD K H I (.lst ds) (.ref p)
  | dct {p : Addr} {kvs : List (Key × V)} {ks : List Key} {ds : List D} (h : H p = some (.dK kvs)) (n : p ∉ I) (hk : kvs.map (·.1) = ks) (r : RDs K H I ds (kvs.map (·.2))) : RD K H I (.dct ks ds) (.ref p)
  | ins {p C dx : Addr} {fs : List (Str × V)} {ns : List Str} {ds : List D} (h : H p = some (.ins C dx fs)) (n : p ∉ I) (hk : fs.map (·.1) = ns) (r : RDs K H I ds (fs.map (·.2))) : RD K H I (.ins C ns ds) (.ref p)
inductive RDs (K : Fg) (H : Hp) (I : List Addr) : List D → List V → Prop where
  | nil : RDs K H I [] []
  | cons {d : D} {v : V} {ds : List D} {vs : List V} (a : RD K H I d v) (r : RDs K H I ds vs) : RDs K H I (d :: ds) (v :: vs)
end

def RO (K : Fg) (H : Hp) (I : List Addr) (a : Addr) : O → Prop
  | .lst ds => ∃ xs, H a = some (.lst xs) ∧ RDs K H I ds xs
  | .dct qs => ∃ kvs, H a = some (.dK kvs) ∧ kvs.map (·.1) = qs.map (·.1) ∧ RDs K H I (qs.map (·.2)) (kvs.map (·.2))
  | .ins C qs => ∃ dx fs, H a = some (.ins C dx fs) ∧ fs.map (·.1) = qs.map (·.1) ∧ RDs K H I (qs.map (·.2)) (fs.map (·.2))

structure HR (K : Fg) (I : List Addr) (h : OS) (H : Hp) : Prop where
  len : I.length = h.length
  nd : I.Nodup
  ob : ∀ (i : Nat) (a : Addr) (o : O), I[i]? = some a → h[i]? = some o → RO K H I a o

structure Stp (I : List Addr) (H : Hp) (I' : List Addr) (H' : Hp) : Prop where
  pre : ∃ new, I' = I ++ new ∧ ∀ p ∈ new, H p = none
  keep : ∀ b o, H b = some o → b ∉ I → H' b = some o
  live : ∀ b o, H b = some o → ∃ o', H' b = some o'

section
variable {K : Fg} {H H' H1 H2 : Hp} {I I' I1 I2 : List Addr} {h h' : OS} {p : Addr} {o : HO}

theorem Stp.refl : Stp I H I H := ⟨⟨[], (List.append_nil I).symm, fun p hp => absurd hp List.not_mem_nil⟩, fun _ _ e _ => e, fun _ o e => ⟨o, e⟩⟩
theorem Stp.notin (s : Stp I H I' H') (e : H p = some o) (n : p ∉ I) : p ∉ I' := by
  obtain ⟨new, rfl, hn⟩ := s.pre
  intro q
  rcases List.mem_append.mp q with q | q
  · exact n q
  · have := hn p q
    rw [e] at this
    cases this
theorem Stp.trans (a : Stp I H I1 H1) (b : Stp I1 H1 I2 H2) : Stp I H I2 H2 := by
  refine ⟨?_, fun x o e n => b.keep x o (a.keep x o e n) (a.notin e n), fun x o e => ?_⟩
  · obtain ⟨n1, rfl, f1⟩ := a.pre
    obtain ⟨n2, rfl, f2⟩ := b.pre
    refine ⟨n1 ++ n2, List.append_assoc _ _ _, fun p hp => ?_⟩
    rcases List.mem_append.mp hp with q | q
    · exact f1 p q
    · cases e : H p with
      | none => rfl
      | some o =>
        obtain ⟨o', e'⟩ := a.live p o e
        rw [f2 p q] at e'
        cases e'
  · obtain ⟨o1, e1⟩ := a.live x o e
    exact b.live x o1 e1
theorem ST.sq {xs : List V} (h : ST K H I p xs) : SqT K H p xs := by
  rcases h with ⟨h, _⟩ | h
  · exact Or.inl h
  · rcases h with (h | ⟨o, h⟩) | h
    · cases h
    · cases h
    · exact Or.inr h
theorem SZ.sq {xs : List V} (h : SZ K H I p xs) : SqL K H p xs := by
  rcases h with ⟨o, h, _⟩ | h
  · exact Or.inl (Or.inr ⟨o, h⟩)
  · rcases h with (h | ⟨o, h⟩) | h
    · cases h
    · cases h
    · exact Or.inr h
theorem ST.step {xs : List V} (h : ST K H I p xs) (s : Stp I H I' H') : ST K H' I' p xs := by
  rcases h with ⟨h | ⟨o, h⟩, n⟩ | h
  · exact Or.inl ⟨Or.inl (s.keep _ _ h n), s.notin h n⟩
  · exact Or.inl ⟨Or.inr ⟨o, s.keep _ _ h n⟩, s.notin h n⟩
  · exact Or.inr h
theorem SZ.step {xs : List V} (h : SZ K H I p xs) (s : Stp I H I' H') : SZ K H' I' p xs := by
  rcases h with ⟨o, h, n⟩ | h
  · exact Or.inl ⟨o, s.keep _ _ h n, s.notin h n⟩
  · exact Or.inr h
theorem Stp.at (s : Stp I H I' H') {i : Nat} {a : Addr} (e : I[i]? = some a) : I'[i]? = some a := by
  obtain ⟨new, rfl, _⟩ := s.pre
  rw [List.getElem?_append_left (List.getElem?_eq_some_iff.mp e).1]
  exact e
mutual
theorem RD.step (s : Stp I H I' H') : ∀ {d : D} {v : V}, RD K H I d v → RD K H' I' d v
  | _, _, .non => .non
  | _, _, .bl b => .bl b
  | _, _, .int i => .int i
  | _, _, .str x => .str x
  | _, _, .ty n => .ty n
  | _, _, .obj a => .obj a
  | _, _, .ref e => .ref (s.at e)
  | _, _, .scr e r => .scr (e.step s) (RDs.step s r)
  | _, _, .tup e r => .tup (e.step s) (RDs.step s r)
  | _, _, .lst e n r => .lst (s.keep _ _ e n) (s.notin e n) (RDs.step s r)
  | _, _, .dct e n hk r => .dct (s.keep _ _ e n) (s.notin e n) hk (RDs.step s r)
  | _, _, .ins e n hk r => .ins (s.keep _ _ e n) (s.notin e n) hk (RDs.step s r)
theorem RDs.step (s : Stp I H I' H') : ∀ {ds : List D} {vs : List V}, RDs K H I ds vs → RDs K H' I' ds vs
  | _, _, .nil => .nil
  | _, _, .cons a r => .cons (RD.step s a) (RDs.step s r)
end
theorem RDs.length : ∀ {ds : List D} {vs : List V}, RDs K H I ds vs → ds.length = vs.length
  | _, _, .nil => rfl
  | _, _, .cons _ r => by rw [List.length_cons, List.length_cons, r.length]
theorem RDs.get : ∀ {ds : List D} {vs : List V} {i : Nat} {d : D}, RDs K H I ds vs → ds[i]? = some d → ∃ v, vs[i]? = some v ∧ RD K H I d v
  | _, _, _, _, .nil, e => by cases e
  | _, _, 0, _, .cons a _, e => by
    cases e
    exact ⟨_, rfl, a⟩
  | _, _, i + 1, _, .cons _ r, e => RDs.get (i := i) r e
theorem RDs.getV : ∀ {ds : List D} {vs : List V} {i : Nat} {v : V}, RDs K H I ds vs → vs[i]? = some v → ∃ d, ds[i]? = some d ∧ RD K H I d v
  | _, _, _, _, .nil, e => by cases e
  | _, _, 0, _, .cons a _, e => by
    cases e
    exact ⟨_, rfl, a⟩
  | _, _, i + 1, _, .cons _ r, e => RDs.getV (i := i) r e
theorem RDs.append : ∀ {ds es : List D} {vs ws : List V}, RDs K H I ds vs → RDs K H I es ws → RDs K H I (ds ++ es) (vs ++ ws)
  | _, _, _, _, .nil, r => r
  | _, _, _, _, .cons a r, q => .cons a (r.append q)
theorem RDs.set {d : D} {v : V} (a : RD K H I d v) : ∀ {ds : List D} {vs : List V} (i : Nat), RDs K H I ds vs → RDs K H I (ds.set i d) (vs.set i v)
  | _, _, _, .nil => .nil
  | _, _, 0, .cons _ r => .cons a r
  | _, _, i + 1, .cons b r => .cons b (r.set a i)
theorem RDs.take : ∀ {ds : List D} {vs : List V} (n : Nat), RDs K H I ds vs → RDs K H I (ds.take n) (vs.take n)
  | _, _, 0, _ => .nil
  | _, _, _ + 1, .nil => .nil
  | _, _, n + 1, .cons a r => .cons a (r.take n)
theorem RDs.drop : ∀ {ds : List D} {vs : List V} (n : Nat), RDs K H I ds vs → RDs K H I (ds.drop n) (vs.drop n)
  | _, _, 0, r => r
  | _, _, _ + 1, .nil => .nil
  | _, _, n + 1, .cons _ r => r.drop n
theorem HR.tracked (r : HR K I h H) {a : Addr} (m : a ∈ I) : ∃ u, H a = some u := by
  obtain ⟨i, hi, e⟩ := List.getElem_of_mem m
  have hi' : i < h.length := by rw [← r.len]; exact hi
  have hI : I[i]? = some a := by rw [List.getElem?_eq_getElem hi, e]
  have := r.ob i a h[i] hI (List.getElem?_eq_getElem hi')
  cases hh : h[i] with
  | lst ds =>
    rw [hh] at this
    obtain ⟨xs, q, _⟩ := this
    exact ⟨_, q⟩
  | dct qs =>
    rw [hh] at this
    obtain ⟨xs, q, _⟩ := this
    exact ⟨_, q⟩
  | ins C qs =>
    rw [hh] at this
    obtain ⟨dx, xs, q, _⟩ := this
    exact ⟨_, q⟩
theorem HR.fresh (r : HR K I h H) (e : H p = none) : p ∉ I := by
  intro m
  obtain ⟨u, q⟩ := r.tracked m
  rw [e] at q
  cases q
/-- an object's description at another heap in which its own place and all values stand -/
theorem RO.moved {a : Addr} {x : O} (r : RO K H I a x) (e : H' a = H a) (s : ∀ {ds : List D} {vs : List V}, RDs K H I ds vs → RDs K H' I' ds vs) : RO K H' I' a x := by
  cases x with
  | lst ds =>
    obtain ⟨xs, q, r⟩ := r
    exact ⟨xs, e.trans q, s r⟩
  | dct qs =>
    obtain ⟨xs, q, hk, r⟩ := r
    exact ⟨xs, e.trans q, hk, s r⟩
  | ins C qs =>
    obtain ⟨dx, xs, q, hk, r⟩ := r
    exact ⟨dx, xs, e.trans q, hk, s r⟩
/-- a new thing that is no object of ours -/
theorem Stp.new (e : H p = none) : Stp I H I (upd H p o) := by
  have ne : ∀ b u, H b = some u → b ≠ p := fun b u q => ne_of_none q e
  exact ⟨⟨[], (List.append_nil I).symm, fun p hp => absurd hp List.not_mem_nil⟩, fun b u q _ => by rw [upd_ne (ne b u q)]; exact q, fun b u q => ⟨u, by rw [upd_ne (ne b u q)]; exact q⟩⟩
theorem HR.new (r : HR K I h H) (e : H p = none) : HR K I h (upd H p o) := by
  refine ⟨r.len, r.nd, fun i a x hi hx => (r.ob i a x hi hx).moved (upd_ne ?_) fun q => q.step (Stp.new e)⟩
  intro z
  subst z
  exact r.fresh e (List.mem_of_getElem? hi)
/-- a new object of ours -/
theorem Stp.push (e : H p = none) : Stp I H (I ++ [p]) (upd H p o) := by
  have s : Stp I H I (upd H p o) := Stp.new e
  exact ⟨⟨[p], rfl, fun q hq => by rw [List.mem_singleton.mp hq]; exact e⟩, s.keep, s.live⟩
theorem HR.push {x : O} (r : HR K I h H) (e : H p = none) (new : RO K (upd H p o) (I ++ [p]) p x) : HR K (I ++ [p]) (h ++ [x]) (upd H p o) := by
  have np : p ∉ I := r.fresh e
  refine ⟨by rw [List.length_append, List.length_append, r.len]; rfl, List.nodup_append.mpr ⟨r.nd, List.nodup_cons.mpr ⟨List.not_mem_nil, List.nodup_nil⟩, fun a ha b hb z => ?_⟩, fun i a y hi hx => ?_⟩
  · subst z
    rw [List.mem_singleton.mp hb] at ha
    exact np ha
  · by_cases hl : i < I.length
    · rw [List.getElem?_append_left hl] at hi
      rw [List.getElem?_append_left (by rw [← r.len]; exact hl)] at hx
      refine (r.ob i a y hi hx).moved (upd_ne ?_) fun q => q.step (Stp.push e)
      intro z
      subst z
      exact np (List.mem_of_getElem? hi)
    · have hl' : I.length ≤ i := Nat.le_of_not_lt hl
      rw [List.getElem?_append_right hl'] at hi
      rw [List.getElem?_append_right (by rw [← r.len]; exact hl'), ← r.len] at hx
      cases hj : i - I.length with
      | zero =>
        rw [hj] at hi hx
        cases hi
        cases hx
        exact new
      | succ j =>
        rw [hj] at hi
        cases hi
/-- an object of ours changes -/
theorem Stp.put (m : p ∈ I) (l : ∃ u, H p = some u) : Stp I H I (upd H p o) := by
  refine ⟨⟨[], (List.append_nil I).symm, fun p hp => absurd hp List.not_mem_nil⟩, fun b u q n => ?_, fun b u q => ?_⟩
  · rw [upd_ne (fun z => n (by rw [z]; exact m))]
    exact q
  · by_cases z : b = p
    · subst z
      exact ⟨o, upd_same⟩
    · exact ⟨u, by rw [upd_ne z]; exact q⟩
theorem HR.put {x : O} {i : Nat} (r : HR K I h H) (e : I[i]? = some p) (new : RO K (upd H p o) I p x) : HR K I (h.set i x) (upd H p o) := by
  have m : p ∈ I := List.mem_of_getElem? e
  refine ⟨by rw [List.length_set]; exact r.len, r.nd, fun j a y hi hx => ?_⟩
  by_cases z : j = i
  · subst z
    rw [e] at hi
    cases hi
    have hl : j < h.length := by rw [← r.len]; exact (List.getElem?_eq_some_iff.mp e).1
    rw [List.getElem?_set_self hl] at hx
    cases hx
    exact new
  · rw [List.getElem?_set_ne (Ne.symm z)] at hx
    refine (r.ob j a y hi hx).moved (upd_ne ?_) fun q => q.step (Stp.put m (r.tracked m))
    intro w
    subst w
    exact z ((List.getElem?_inj (List.getElem?_eq_some_iff.mp hi).1 r.nd).mp (hi.trans e.symm))
end

/-! ### slots -/
def SR (K : Fg) (H : Hp) (I : List Addr) (δ : DS) (σ : St) : Prop := δ.length = σ.length ∧ ∀ (i : Nat) (d : D), δ[i]? = some (some d) → ∃ v, σ[i]? = some (some v) ∧ RD K H I d v
theorem SR.step {K : Fg} {H H' : Hp} {I I' : List Addr} {δ : DS} {σ : St} (r : SR K H I δ σ) (s : Stp I H I' H') : SR K H' I' δ σ :=
  ⟨r.1, fun i d e => let ⟨v, q, a⟩ := r.2 i d e; ⟨v, q, a.step s⟩⟩
theorem SR.set {K : Fg} {H : Hp} {I : List Addr} {δ : DS} {σ : St} {d : D} {v : V} (r : SR K H I δ σ) (i : Nat) (a : RD K H I d v) : SR K H I (δ.set i (some d)) (σ.set i (some v)) := by
  refine ⟨by rw [List.length_set, List.length_set]; exact r.1, fun j e q => ?_⟩
  by_cases z : i = j
  · subst z
    have hl : i < δ.length := by
      have := (List.getElem?_eq_some_iff.mp q).1
      rw [List.length_set] at this
      exact this
    rw [List.getElem?_set_self hl] at q
    cases q
    exact ⟨v, List.getElem?_set_self (by rw [← r.1]; exact hl), a⟩
  · rw [List.getElem?_set_ne z] at q
    rw [List.getElem?_set_ne z]
    exact r.2 j e q

/-! ### readings over data -/
abbrev DK := D → OS → Prop
abbrev TDE := DS → OS → DK → Prop
abbrev TDT := DS → OS → (Bool → OS → Prop) → Prop
abbrev TDA := DS → OS → (List D → OS → Prop) → Prop
def Go (K : Fg) (I : List Addr) (H : Hp) (R : DK) (Q : VK) : Prop := ∀ d h' I' H' v, R d h' → Stp I H I' H' → HR K I' h' H' → RD K H' I' d v → Q v H'
def GoB (K : Fg) (I : List Addr) (H : Hp) (R : Bool → OS → Prop) (Q : Bool → Hp → Prop) : Prop := ∀ b h' I' H', R b h' → Stp I H I' H' → HR K I' h' H' → Q b H'
def GoA (K : Fg) (I : List Addr) (H : Hp) (R : List D → OS → Prop) (Q : List V → Hp → Prop) : Prop := ∀ ds h' I' H' vs, R ds h' → Stp I H I' H' → HR K I' h' H' → RDs K H' I' ds vs → Q vs H'
def up (K : Fg) (t : TDE) : TE := fun σ H Q => ∃ I δ h R, SR K H I δ σ ∧ HR K I h H ∧ t δ h R ∧ Go K I H R Q
def upT (K : Fg) (t : TDT) : TT := fun σ H Q => ∃ I δ h R, SR K H I δ σ ∧ HR K I h H ∧ t δ h R ∧ GoB K I H R Q
def upA (K : Fg) (t : TDA) : TA := fun σ H Q => ∃ I δ h R, SR K H I δ σ ∧ HR K I h H ∧ t δ h R ∧ GoA K I H R Q
theorem Go.after {K : Fg} {I I1 : List Addr} {H H1 : Hp} {R : DK} {Q : VK} (g : Go K I H R Q) (s : Stp I H I1 H1) : Go K I1 H1 R Q := fun d h' I' H' v r s2 => g d h' I' H' v r (s.trans s2)
theorem GoB.after {K : Fg} {I I1 : List Addr} {H H1 : Hp} {R : Bool → OS → Prop} {Q : Bool → Hp → Prop} (g : GoB K I H R Q) (s : Stp I H I1 H1) : GoB K I1 H1 R Q := fun d h' I' H' r s2 => g d h' I' H' r (s.trans s2)
theorem GoA.after {K : Fg} {I I1 : List Addr} {H H1 : Hp} {R : List D → OS → Prop} {Q : List V → Hp → Prop} (g : GoA K I H R Q) (s : Stp I H I1 H1) : GoA K I1 H1 R Q := fun d h' I' H' v r s2 => g d h' I' H' v r (s.trans s2)
/-- the very value, nothing changed -/
theorem Go.now {K : Fg} {I : List Addr} {H : Hp} {R : DK} {Q : VK} {h : OS} {d : D} {v : V} (g : Go K I H R Q) (r : R d h) (hr : HR K I h H) (a : RD K H I d v) : Q v H := g d h I H v r Stp.refl hr a

abbrev DE (X : Cx) (e : Expr) (t : TDE) : Prop := PE X e (up X.K t)
abbrev DT (X : Cx) (e : Expr) (t : TDT) : Prop := PT X e (upT X.K t)
abbrev DWt (X : Cx) (e : Expr) (t : TDT) : Prop := PW X e (upT X.K t)
abbrev DA (X : Cx) (es : List Expr) (t : TDA) : Prop := PA X es (upA X.K t)

theorem PE.imp {X : Cx} {e : Expr} {t t' : TE} (h : PE X e t) (i : ∀ σ H Q, t' σ H Q → t σ H Q) : PE X e t' := ⟨fun pins s σ H Q I q => h.run pins s σ H Q I (i σ H Q q)⟩
theorem PT.imp {X : Cx} {e : Expr} {t t' : TT} (h : PT X e t) (i : ∀ σ H Q, t' σ H Q → t σ H Q) : PT X e t' := ⟨fun pins s σ H Q I q => h.run pins s σ H Q I (i σ H Q q)⟩
theorem PW.imp {X : Cx} {e : Expr} {t t' : TT} (h : PW X e t) (i : ∀ σ H Q, t' σ H Q → t σ H Q) : PW X e t' := ⟨fun wh pins s σ H Q I q => h.run wh pins s σ H Q I (i σ H Q q)⟩
theorem PA.imp {X : Cx} {es : List Expr} {t t' : TA} (h : PA X es t) (i : ∀ σ H Q, t' σ H Q → t σ H Q) : PA X es t' := ⟨fun pos pins s σ H Q I q => h.run pos pins s σ H Q I (i σ H Q q)⟩
theorem PS.imp {X : Cx} {e : Stmt} {t t' : TS} (h : PS X e t) (i : ∀ E σ H, t' E σ H → t E σ H) : PS X e t' := ⟨fun pins s σ H E I q => h.run pins s σ H E I (i E σ H q)⟩
theorem PSs.imp {X : Cx} {e : List Stmt} {t t' : TS} (h : PSs X e t) (i : ∀ E σ H, t' E σ H → t E σ H) : PSs X e t' := ⟨fun pins s σ H E I q => h.run pins s σ H E I (i E σ H q)⟩

/-! ### names, constants -/
def dVar (i : Nat) : TDE := fun δ h R => ∃ d, δ[i]? = some (some d) ∧ R d h
def dC (d : D) : TDE := fun _ h R => R d h
section
variable {X : Cx} {pos : Pos}
theorem dv (i : Nat) {x : Str} (hN : X.N[i]? = some x := by rfl) (hv : Vis X.env.scope x := by first | exact Or.inl rfl | exact Or.inr (Or.inl rfl) | exact Or.inr (Or.inr rfl)) (hd : (x == ("__debug__" : Str)) = false := by decide)
    (hcd : (x == ("__classdict__" : Str)) = false := by decide) : DE X (.Name x pos) (dVar i) :=
  PE.imp (pv i hN hv hd hcd) fun σ H Q ⟨I, δ, h, R, sr, hr, ⟨d, e, r⟩, g⟩ => let ⟨v, q, a⟩ := sr.2 i d e; ⟨v, q, g.now r hr a⟩
theorem dc_of {e : Expr} {v : V} {d : D} (p : PE X e (tC v)) (a : ∀ H I, RD X.K H I d v) : DE X e (dC d) :=
  PE.imp p fun σ H Q ⟨I, δ, h, R, sr, hr, r, g⟩ => g.now r hr (a H I)
theorem d_int {i : Int} {j : Nat} : DE X (.Constant (.int i) j pos) (dC (.int i)) := dc_of pe_int fun _ _ => .int i
theorem d_bl {b : Bool} {j : Nat} : DE X (.Constant (.bool b) j pos) (dC (.bl b)) := dc_of pe_bl fun _ _ => .bl b
theorem d_non {j : Nat} : DE X (.Constant .none j pos) (dC .non) := dc_of pe_non fun _ _ => .non
theorem d_str {x : Str} {j : Nat} : DE X (.Constant (.str x) j pos) (dC (.str x)) := dc_of pe_str fun _ _ => .str x
end

/-! ### two values, one value, several -/
abbrev F2 := D → D → OS → DK → Prop
abbrev F1 := D → OS → DK → Prop
abbrev FA := List D → OS → DK → Prop
def dOp (f : F2) (ta tb : TDE) : TDE := fun δ h R => ta δ h fun x h1 => tb δ h1 fun y h2 => f x y h2 R
def dUn (f : F1) (ta : TDE) : TDE := fun δ h R => ta δ h fun x h1 => f x h1 R
def up2 (K : Fg) (f : F2) : R2 := fun x y H Q => ∃ I dx dy h R, HR K I h H ∧ RD K H I dx x ∧ RD K H I dy y ∧ f dx dy h R ∧ Go K I H R Q
def up1 (K : Fg) (f : F1) : V → Hp → VK → Prop := fun x H Q => ∃ I dx h R, HR K I h H ∧ RD K H I dx x ∧ f dx h R ∧ Go K I H R Q
def upL (K : Fg) (f : FA) : List V → Hp → VK → Prop := fun xs H Q => ∃ I ds h R, HR K I h H ∧ RDs K H I ds xs ∧ f ds h R ∧ Go K I H R Q
section
variable {K : Fg} {f : F2} {g : F1} {ta tb : TDE} {σ : St} {H : Hp} {Q : VK}
theorem up_op (q : up K (dOp f ta tb) σ H Q) : tOp (up2 K f) (up K ta) (up K tb) σ H Q := by
  obtain ⟨I, δ, h, R, sr, hr, ht, g⟩ := q
  refine ⟨I, δ, h, fun x h1 => tb δ h1 fun y h2 => f x y h2 R, sr, hr, ht, fun dx h1 I1 H1 x hR s1 hr1 rx => ?_⟩
  refine ⟨I1, δ, h1, fun y h2 => f dx y h2 R, sr.step s1, hr1, hR, fun dy h2 I2 H2 y hf s2 hr2 ry => ?_⟩
  exact ⟨I2, dx, dy, h2, R, hr2, rx.step s2, ry, hf, g.after (s1.trans s2)⟩
theorem up_un (q : up K (dUn g ta) σ H Q) : tUn (up1 K g) (up K ta) σ H Q := by
  obtain ⟨I, δ, h, R, sr, hr, ht, go⟩ := q
  refine ⟨I, δ, h, fun x h1 => g x h1 R, sr, hr, ht, fun dx h1 I1 H1 x hR s1 hr1 rx => ?_⟩
  exact ⟨I1, dx, h1, R, hr1, rx, hR, go.after s1⟩
end
abbrev DOp (X : Cx) (f : Value → Value → Sem Value) (r : F2) : Prop := OpR X f (up2 X.K r)
section
variable {X : Cx} {a b c : Expr} {ta tb tc : TDE} {pos : Pos} {f f' : F2}
theorem d_bin {op : Operator} (ho : DOp X (binaryOp op) f) (ha : DE X a ta) (hb : DE X b tb) : DE X (.BinOp a op b pos) (dOp f ta tb) := PE.imp (pe_op ho ha hb) fun _ _ _ => up_op
theorem d_cmp {op : CmpOp} (ho : DOp X (compareOp op) f) (ha : DE X a ta) (hb : DE X b tb) (hm : behindInMarks op b = false := by first | exact nomark _ | with_unfolding_all rfl) : DE X (.Compare a [op] [b] pos) (dOp f ta tb) :=
  PE.imp (pe_cmpR ho ha hb hm) fun _ _ _ => up_op
theorem d_un {op : UnaryOp} {g : F1} (ho : UnR X (unaryOp op) (up1 X.K g)) (ha : DE X a ta) : DE X (.UnaryOp op a pos) (dUn g ta) := PE.imp (pe_un ho ha) fun _ _ _ => up_un
end

/-! ### argument lists -/
def dNil : TDA := fun _ h R => R [] h
def dCons (ta : TDE) (tr : TDA) : TDA := fun δ h R => ta δ h fun x h1 => tr δ h1 fun xs h2 => R (x :: xs) h2
section
variable {X : Cx} {e : Expr} {es : List Expr} {te : TDE} {t : TDA} {pos : Pos}
theorem da_nil : DA X [] dNil := PA.imp pa_nil fun σ H Q ⟨I, δ, h, R, sr, hr, r, g⟩ => g [] h I H [] r Stp.refl hr .nil
theorem da_cons (ha : DE X e te) (hr : DA X es t) (hs : starEach (e :: es) X.env = (false, eval e X.env) :: starEach es X.env := by rfl) : DA X (e :: es) (dCons te t) := by
  refine PA.imp (pa_cons ha hr hs) fun σ H Q ⟨I, δ, h, R, sr, hr, r, g⟩ => ?_
  refine ⟨I, δ, h, _, sr, hr, r, fun dx h1 I1 H1 x hR s1 hr1 rx => ?_⟩
  refine ⟨I1, δ, h1, _, sr.step s1, hr1, hR, fun ds h2 I2 H2 xs hf s2 hr2 rs => ?_⟩
  exact g _ h2 I2 H2 _ hf (s1.trans s2) hr2 (.cons (rx.step s2) rs)
/-- a tuple -/
def dTup (t : TDA) : TDE := fun δ h R => t δ h fun ds h1 => ds.length ≤ sizeLine ∧ R (.tup ds) h1
/-- a list that nobody will change; a list of ours -/
def dLst (t : TDA) : TDE := fun δ h R => t δ h fun ds h1 => ds.length ≤ sizeLine ∧ R (.lst ds) h1
def dLstN (t : TDA) : TDE := fun δ h R => t δ h fun ds h1 => ds.length ≤ sizeLine ∧ R (.ref h1.length) (h1 ++ [.lst ds])
theorem Go.tup {K : Fg} {I : List Addr} {H : Hp} {R : DK} {Q : VK} {h : OS} {ds : List D} {xs : List V} (g : Go K I H R Q) (r : R (.tup ds) h) (hr : HR K I h H) (a : RDs K H I ds xs) : ∀ p, H p = none → Q (.ref p) (upd H p (.tup xs)) :=
  fun p e => g _ h I _ _ r (Stp.new e) (hr.new e) (.tup (Or.inl ⟨Or.inl upd_same, hr.fresh e⟩) (a.step (Stp.new e)))
theorem Go.lst {K : Fg} {I : List Addr} {H : Hp} {R : DK} {Q : VK} {h : OS} {ds : List D} {xs : List V} (g : Go K I H R Q) (r : R (.lst ds) h) (hr : HR K I h H) (a : RDs K H I ds xs) : ∀ p, H p = none → Q (.ref p) (upd H p (.lst xs)) :=
  fun p e => g _ h I _ _ r (Stp.new e) (hr.new e) (.lst upd_same (hr.fresh e) (a.step (Stp.new e)))
theorem Go.lstN {K : Fg} {I : List Addr} {H : Hp} {R : DK} {Q : VK} {h : OS} {ds : List D} {xs : List V} (g : Go K I H R Q) (r : R (.ref h.length) (h ++ [.lst ds])) (hr : HR K I h H) (a : RDs K H I ds xs) : ∀ p, H p = none → Q (.ref p) (upd H p (.lst xs)) :=
  fun p e => g _ _ (I ++ [p]) _ _ r (Stp.push e) (hr.push e ⟨xs, upd_same, a.step (Stp.push e)⟩) (.ref (by rw [← hr.len, List.getElem?_append_right (Nat.le_refl _), Nat.sub_self]; rfl))
theorem d_tup {x1 : Nat} (hp : DA X es t) : DE X (.Tuple es x1 pos) (dTup t) := by
  refine PE.imp (pe_tup hp) fun σ H Q ⟨I, δ, h, R, sr, hr, r, g⟩ => ?_
  refine ⟨I, δ, h, _, sr, hr, r, fun ds h1 I1 H1 xs ⟨hl, hR⟩ s1 hr1 rs => ⟨by rw [← rs.length]; exact hl, (g.after s1).tup hR hr1 rs⟩⟩
theorem d_lst (hp : DA X es t) : DE X (.List es pos) (dLst t) := by
  refine PE.imp (pe_lst hp) fun σ H Q ⟨I, δ, h, R, sr, hr, r, g⟩ => ?_
  refine ⟨I, δ, h, _, sr, hr, r, fun ds h1 I1 H1 xs ⟨hl, hR⟩ s1 hr1 rs => ⟨by rw [← rs.length]; exact hl, (g.after s1).lst hR hr1 rs⟩⟩
theorem d_lstN (hp : DA X es t) : DE X (.List es pos) (dLstN t) := by
  refine PE.imp (pe_lst hp) fun σ H Q ⟨I, δ, h, R, sr, hr, r, g⟩ => ?_
  refine ⟨I, δ, h, _, sr, hr, r, fun ds h1 I1 H1 xs ⟨hl, hR⟩ s1 hr1 rs => ⟨by rw [← rs.length]; exact hl, (g.after s1).lstN hR hr1 rs⟩⟩
end
end FL
/-! Operations over data. -/
namespace FL
open PySem L2
section views
/-- what may be read as a list (that is not the script) -/
def lsv (h : OS) : D → Option (List D)
  | .lst ds => some ds
  | .ref n => match h[n]? with
    | some (.lst ds) => some ds
    | _ => none
  | _ => none
/-- a list (true) or a tuple (false) -/
def sqv (h : OS) : D → Option (Bool × List D)
  | .lst ds => some (true, ds)
  | .scr ds => some (true, ds)
  | .tup ds => some (false, ds)
  | .ref n => match h[n]? with
    | some (.lst ds) => some (true, ds)
    | _ => none
  | _ => none
variable {K : Fg} {H : Hp} {I : List Addr} {h : OS} {d : D} {v : V} {ds : List D}
theorem HR.get {i : Nat} {o : O} {a : Addr} (r : HR K I h H) (e : h[i]? = some o) (q : RD K H I (.ref i) (.ref a)) : RO K H I a o := by
  cases q with
  | ref q => exact r.ob i a o q e
theorem RD.refv {i : Nat} (r : RD K H I (.ref i) v) : ∃ a, v = .ref a ∧ I[i]? = some a := by
  cases r with
  | ref q => exact ⟨_, rfl, q⟩
theorem lsv_ok (hr : HR K I h H) (r : RD K H I d v) (e : lsv h d = some ds) : ∃ p xs, v = .ref p ∧ H p = some (.lst xs) ∧ RDs K H I ds xs := by
  cases d with
  | lst es =>
    cases e
    cases r with
    | lst q n r => exact ⟨_, _, rfl, q, r⟩
  | ref n =>
    obtain ⟨a, rfl, q⟩ := r.refv
    unfold lsv at e
    simp only at e
    split at e
    · rename_i es z
      cases e
      obtain ⟨xs, q2, r2⟩ := hr.ob n a _ q z
      exact ⟨a, xs, rfl, q2, r2⟩
    · cases e
  | _ => cases e
theorem sqv_ok {k : Bool} (hr : HR K I h H) (r : RD K H I d v) (e : sqv h d = some (k, ds)) : ∃ p xs, v = .ref p ∧ ((k = true ∧ SqL K H p xs) ∨ (k = false ∧ SqT K H p xs)) ∧ RDs K H I ds xs := by
  cases d with
  | lst es =>
    cases e
    cases r with
    | lst q n r => exact ⟨_, _, rfl, Or.inl ⟨rfl, SqL.of q⟩, r⟩
  | scr es =>
    cases e
    cases r with
    | scr q r => exact ⟨_, _, rfl, Or.inl ⟨rfl, q.sq⟩, r⟩
  | tup es =>
    cases e
    cases r with
    | tup q r => exact ⟨_, _, rfl, Or.inr ⟨rfl, q.sq⟩, r⟩
  | ref n =>
    obtain ⟨a, rfl, q⟩ := r.refv
    unfold sqv at e
    simp only at e
    split at e
    · rename_i es z
      cases e
      obtain ⟨xs, q2, r2⟩ := hr.ob n a _ q z
      exact ⟨a, xs, rfl, Or.inl ⟨rfl, SqL.of q2⟩, r2⟩
    · cases e
  | _ => cases e
end views

/-! ### + - * // % ** -/
def MulOk (i j : Int) : Prop := CMul i j ∨ CMulW i j
def fAdd : F2 := fun x y h R => match x, y with
  | .int i, .int j => R (.int (i + j)) h
  | .str a, .str b => a.length + b.length ≤ sizeLine ∧ R (.str (a ++ b)) h
  | .tup xs, .tup ys => xs.length + ys.length ≤ sizeLine ∧ R (.tup (xs ++ ys)) h
  | x, y => ∃ xs ys, lsv h x = some xs ∧ lsv h y = some ys ∧ xs.length + ys.length ≤ sizeLine ∧ R (.lst (xs ++ ys)) h
def fSub : F2 := fun x y h R => match x, y with
  | .int i, .int j => R (.int (i - j)) h
  | _, _ => False
def fMul : F2 := fun x y h R => match x, y with
  | .int i, .int j => MulOk i j ∧ R (.int (i * j)) h
  | _, _ => False
def fDiv : F2 := fun x y h R => match x, y with
  | .int i, .int j => CDivW i j ∧ R (.int (i / j)) h
  | _, _ => False
def fMod : F2 := fun x y h R => match x, y with
  | .int i, .int j => 0 < j ∧ R (.int (i % j)) h
  | _, _ => False
def fPow : F2 := fun x y h R => match x, y with
  | .int i, .int j => CPow i j ∧ R (.int (i ^ j.toNat)) h
  | _, _ => False
def fNeg : F1 := fun x h R => match x with
  | .int i => R (.int (-i)) h
  | _ => False
section
variable {X : Cx}
/-- an operation of ints: from its rule over values -/
theorem op_ints {f : Value → Value → Sem Value} {g : F2} {C : Int → Int → Prop} {z : Int → Int → V} (d : Int → Int → D) (hz : ∀ H I i j, RD X.K H I (d i j) (z i j)) (o : OpR X f (rI C z))
    (hg : ∀ x y h R, g x y h R → ∃ i j, x = .int i ∧ y = .int j ∧ C i j ∧ R (d i j) h) : DOp X f g := by
  intro pins s σ H x y v u Q J rx ry ⟨I, dx, dy, h, R, hr, rdx, rdy, hf, go⟩
  obtain ⟨i, j, rfl, rfl, hc, hR⟩ := hg dx dy h R hf
  cases rdx
  cases rdy
  exact o pins s σ H _ _ v u Q J rx ry ⟨i, j, rfl, rfl, hc, go.now hR hr (hz H I i j)⟩
theorem op_ints0 {f : Value → Value → Sem Value} {g : F2} {z : Int → Int → V} (d : Int → Int → D) (hz : ∀ H I i j, RD X.K H I (d i j) (z i j)) (o : OpR X f (rI0 z))
    (hg : ∀ x y h R, g x y h R → ∃ i j, x = .int i ∧ y = .int j ∧ R (d i j) h) : DOp X f g := by
  intro pins s σ H x y v u Q J rx ry ⟨I, dx, dy, h, R, hr, rdx, rdy, hf, go⟩
  obtain ⟨i, j, rfl, rfl, hR⟩ := hg dx dy h R hf
  cases rdx
  cases rdy
  exact o pins s σ H _ _ v u Q J rx ry ⟨i, j, rfl, rfl, go.now hR hr (hz H I i j)⟩
theorem o_sub : DOp X (binaryOp .Sub) fSub := op_ints0 (fun i j => .int (i - j)) (fun _ _ _ _ => .int _) op_sub fun x y h R q => by
  unfold fSub at q
  split at q
  · exact ⟨_, _, rfl, rfl, q⟩
  · exact q.elim
theorem o_mod : DOp X (binaryOp .Mod) fMod := op_ints (fun i j => .int (i % j)) (fun _ _ _ _ => .int _) op_mod fun x y h R q => by
  unfold fMod at q
  split at q
  · exact ⟨_, _, rfl, rfl, q⟩
  · exact q.elim
theorem o_div : DOp X (binaryOp .FloorDiv) fDiv := op_ints (fun i j => .int (i / j)) (fun _ _ _ _ => .int _) op_fdivW fun x y h R q => by
  unfold fDiv at q
  split at q
  · exact ⟨_, _, rfl, rfl, q⟩
  · exact q.elim
theorem o_pow : DOp X (binaryOp .Pow) fPow := op_ints (fun i j => .int (i ^ j.toNat)) (fun _ _ _ _ => .int _) op_pow fun x y h R q => by
  unfold fPow at q
  split at q
  · exact ⟨_, _, rfl, rfl, q⟩
  · exact q.elim
theorem op_mulOk : OpR X (binaryOp .Mult) (rI MulOk fun i j => .int (i * j)) := by
  intro pins s σ H x y v u Q J rx ry ⟨i, j, ex, ey, hc, q⟩
  rcases hc with hc | hc
  · exact op_mul pins s σ H x y v u Q J rx ry ⟨i, j, ex, ey, hc, q⟩
  · exact op_mulW pins s σ H x y v u Q J rx ry ⟨i, j, ex, ey, hc, q⟩
theorem o_mul : DOp X (binaryOp .Mult) fMul := op_ints (fun i j => .int (i * j)) (fun _ _ _ _ => .int _) op_mulOk fun x y h R q => by
  unfold fMul at q
  split at q
  · exact ⟨_, _, rfl, rfl, q⟩
  · exact q.elim
theorem o_add : DOp X (binaryOp .Add) fAdd := by
  intro pins s σ H x y v u Q J rx ry ⟨I, dx, dy, h, R, hr, rdx, rdy, hf, go⟩
  unfold fAdd at hf
  split at hf
  · cases rdx
    cases rdy
    exact op_add pins s σ H _ _ v u Q J rx ry ⟨_, _, rfl, rfl, go.now hf hr (.int _)⟩
  · cases rdx
    cases rdy
    exact op_add_str pins s σ H _ _ v u Q J rx ry ⟨_, _, rfl, rfl, hf.1, go.now hf.2 hr (.str _)⟩
  · cases rdx with
    | tup a1 b1 =>
    cases rdy with
    | tup a2 b2 =>
    refine op_catA pins s σ H _ _ v u Q J rx ry ⟨_, _, _, _, rfl, rfl, a1.sq, a2.sq, by rw [← b1.length, ← b2.length]; exact hf.1, fun z => ?_, fun _ z => ?_, fun _ _ => go.tup hf.2 hr (b1.append b2)⟩
    · subst z
      cases b1
      exact go.now hf.2 hr (.tup a2 b2)
    · subst z
      cases b2
      have hR := hf.2
      rw [List.append_nil] at hR
      exact go.now hR hr (.tup a1 b1)
  · obtain ⟨xs, ys, e1, e2, hl, hR⟩ := hf
    obtain ⟨p, vs, rfl, q1, r1⟩ := lsv_ok hr rdx e1
    obtain ⟨p2, ws, rfl, q2, r2⟩ := lsv_ok hr rdy e2
    exact op_cat pins s σ H _ _ v u Q J rx ry ⟨p, p2, vs, ws, rfl, rfl, q1, q2, by rw [← r1.length, ← r2.length]; exact hl, go.lst hR hr (r1.append r2)⟩
theorem o_neg : UnR X (unaryOp .USub) (up1 X.K fNeg) := by
  intro pins s σ H x v Q J rx ⟨I, dx, h, R, hr, rdx, hf, go⟩
  unfold fNeg at hf
  split at hf
  · cases rdx
    exact un_neg pins s σ H _ v Q J rx ⟨_, rfl, go.now hf hr (.int _)⟩
  · exact hf.elim
end

/-! ### comparisons -/
def fLt : F2 := fun x y h R => match x, y with
  | .int i, .int j => R (.bl (decide (i < j))) h
  | .str a, .str b => R (.bl (decide (a.cps.toList < b.cps.toList))) h
  | _, _ => False
def fLe : F2 := fun x y h R => match x, y with
  | .int i, .int j => R (.bl (decide (i ≤ j))) h
  | _, _ => False
def fGt : F2 := fun x y h R => match x, y with
  | .int i, .int j => R (.bl (decide (j < i))) h
  | _, _ => False
def fGe : F2 := fun x y h R => match x, y with
  | .int i, .int j => R (.bl (decide (j ≤ i))) h
  | _, _ => False
def fIsN : F2 := fun x y h R => match y with
  | .non => (match x with
    | .non => R (.bl true) h
    | _ => R (.bl false) h)
  | _ => False
def fNotN : F2 := fun x y h R => match y with
  | .non => (match x with
    | .non => R (.bl false) h
    | _ => R (.bl true) h)
  | _ => False
mutual
def toP : D → Option PyData
  | .non => some .none
  | .bl b => some (.bool b)
  | .int i => some (.int i)
  | .str x => some (.str x)
  | .tup ds => (toPs ds).map .tuple
  | .lst ds => (toPs ds).map .list
  | .scr ds => (toPs ds).map .list
  | .dct _ _ => none
  | .ins _ _ _ => none
  | .ref _ => none
  | .obj _ => none
  | .ty _ => none
def toPs : List D → Option (List PyData)
  | [] => some []
  | d :: ds => match toP d, toPs ds with
    | some p, some ps => some (p :: ps)
    | _, _ => none
end
/-- what is read of a value: an object of ours as its content -/
def vw (h : OS) : D → D
  | .ref n => match h[n]? with
    | some (.lst ds) => .lst ds
    | some (.dct qs) => .dct (qs.map (·.1)) (qs.map (·.2))
    | some (.ins C qs) => .ins C (qs.map (·.1)) (qs.map (·.2))
    | none => .ref n
  | d => d
def fEq : F2 := fun x y h R => match x, y with
  | .int i, .int j => R (.bl (decide (i = j))) h
  | .str a, .str b => R (.bl (decide (a = b))) h
  | .bl a, .bl b => R (.bl (decide (a = b))) h
  | x, y => ∃ a b, toP (vw h x) = some a ∧ toP (vw h y) = some b ∧ SeqAt.shaped a = true ∧ SeqAt.shaped b = true ∧ R (.bl (PyData.eqv a b)) h
def fNe : F2 := fun x y h R => match x, y with
  | .int i, .int j => R (.bl (!decide (i = j))) h
  | .str a, .str b => R (.bl (!decide (a = b))) h
  | .bl a, .bl b => R (.bl (!decide (a = b))) h
  | x, y => ∃ a b, toP (vw h x) = some a ∧ toP (vw h y) = some b ∧ SeqAt.shaped a = true ∧ SeqAt.shaped b = true ∧ R (.bl (!PyData.eqv a b)) h
section
variable {X : Cx}
theorem o_lt : DOp X (compareOp .Lt) fLt := by
  intro pins s σ H x y v u Q J rx ry ⟨I, dx, dy, h, R, hr, rdx, rdy, hf, go⟩
  unfold fLt at hf
  split at hf
  · cases rdx
    cases rdy
    exact op_lt pins s σ H _ _ v u Q J rx ry ⟨_, _, rfl, rfl, go.now hf hr (.bl _)⟩
  · cases rdx
    cases rdy
    exact op_lt_str pins s σ H _ _ v u Q J rx ry ⟨_, _, rfl, rfl, go.now hf hr (.bl _)⟩
  · exact hf.elim
theorem o_le : DOp X (compareOp .LtE) fLe := op_ints0 (fun i j => .bl (decide (i ≤ j))) (fun _ _ _ _ => .bl _) op_le fun x y h R q => by
  unfold fLe at q
  split at q
  · exact ⟨_, _, rfl, rfl, q⟩
  · exact q.elim
theorem o_gt : DOp X (compareOp .Gt) fGt := op_ints0 (fun i j => .bl (decide (j < i))) (fun _ _ _ _ => .bl _) op_gt fun x y h R q => by
  unfold fGt at q
  split at q
  · exact ⟨_, _, rfl, rfl, q⟩
  · exact q.elim
theorem o_ge : DOp X (compareOp .GtE) fGe := op_ints0 (fun i j => .bl (decide (j ≤ i))) (fun _ _ _ _ => .bl _) op_ge fun x y h R q => by
  unfold fGe at q
  split at q
  · exact ⟨_, _, rfl, rfl, q⟩
  · exact q.elim
theorem RD.non_iff {K : Fg} {H : Hp} {I : List Addr} {d : D} {v : V} (r : RD K H I d v) : v = .non ↔ d = .non := by
  cases r <;> simp
theorem o_isN : DOp X (compareOp .Is) fIsN := by
  intro pins s σ H x y v u Q J rx ry ⟨I, dx, dy, h, R, hr, rdx, rdy, hf, go⟩
  unfold fIsN at hf
  split at hf
  · cases rdy
    refine op_isN pins s σ H _ _ v u Q J rx ry ⟨rfl, ?_⟩
    split at hf
    · cases rdx
      exact go.now hf hr (.bl _)
    · rename_i hn
      have e : decide (x = V.non) = false := decide_eq_false (fun z => hn (rdx.non_iff.mp z))
      rw [e]
      exact go.now hf hr (.bl _)
  · exact hf.elim
theorem o_notN : DOp X (compareOp .IsNot) fNotN := by
  intro pins s σ H x y v u Q J rx ry ⟨I, dx, dy, h, R, hr, rdx, rdy, hf, go⟩
  unfold fNotN at hf
  split at hf
  · cases rdy
    refine op_notN pins s σ H _ _ v u Q J rx ry ⟨rfl, ?_⟩
    split at hf
    · cases rdx
      exact go.now hf hr (.bl _)
    · rename_i hn
      have e : decide (x = V.non) = false := decide_eq_false (fun z => hn (rdx.non_iff.mp z))
      rw [e]
      exact go.now hf hr (.bl _)
  · exact hf.elim
mutual
theorem dp_of {K : Fg} {H : Hp} {I : List Addr} : ∀ {d : D} {v : V} {p : PyData}, RD K H I d v → toP d = some p → Dp K H v p
  | _, _, _, .non, e => by
    cases e
    exact .non
  | _, _, _, .bl b, e => by
    cases e
    exact .bl b
  | _, _, _, .int i, e => by
    cases e
    exact .int i
  | _, _, _, .str x, e => by
    cases e
    exact .str x
  | _, _, _, .ty _, e => by cases e
  | _, _, _, .obj _, e => by cases e
  | _, _, _, .ref _, e => by cases e
  | _, _, _, .dct _ _ _ _, e => by cases e
  | _, _, _, .ins _ _ _ _, e => by cases e
  | _, _, _, .scr (ds := ds) q r, e => by
    unfold toP at e
    cases hq : toPs ds with
    | none =>
      rw [hq] at e
      cases e
    | some ps =>
      rw [hq] at e
      cases e
      exact .lst q.sq (dps_of r hq)
  | _, _, _, .tup (ds := ds) q r, e => by
    unfold toP at e
    cases hq : toPs ds with
    | none =>
      rw [hq] at e
      cases e
    | some ps =>
      rw [hq] at e
      cases e
      exact .tup q.sq (dps_of r hq)
  | _, _, _, .lst (ds := ds) q n r, e => by
    unfold toP at e
    cases hq : toPs ds with
    | none =>
      rw [hq] at e
      cases e
    | some ps =>
      rw [hq] at e
      cases e
      exact .lst (SqL.of q) (dps_of r hq)
theorem dps_of {K : Fg} {H : Hp} {I : List Addr} : ∀ {ds : List D} {vs : List V} {ps : List PyData}, RDs K H I ds vs → toPs ds = some ps → DpAll K H vs ps
  | _, _, _, .nil, e => by
    cases e
    exact .nil
  | _, _, _, .cons (d := d) (ds := ds) a r, e => by
    unfold toPs at e
    cases h1 : toP d with
    | none =>
      rw [h1] at e
      simp at e
    | some p =>
      cases h2 : toPs ds with
      | none =>
        rw [h1, h2] at e
        simp at e
      | some ps =>
        rw [h1, h2] at e
        cases e
        exact .cons (dp_of a h1) (dps_of r h2)
end
theorem dp_vw {K : Fg} {H : Hp} {I : List Addr} {h : OS} {d : D} {v : V} {p : PyData} (hr : HR K I h H) (r : RD K H I d v) (e : toP (vw h d) = some p) : Dp K H v p := by
  cases d with
  | ref n =>
    obtain ⟨a, rfl, q⟩ := r.refv
    unfold vw at e
    simp only at e
    split at e
    · rename_i ds z
      obtain ⟨xs, q2, r2⟩ := hr.ob n a _ q z
      unfold toP at e
      cases hq : toPs ds with
      | none =>
        rw [hq] at e
        cases e
      | some ps =>
        rw [hq] at e
        cases e
        exact .lst (SqL.of q2) (dps_of r2 hq)
    · cases e
    · cases e
    · cases e
  | _ => exact dp_of r e
theorem o_eq (hu : X.A.units + 64 < cLine) : DOp X (compareOp .Eq) fEq := by
  intro pins s σ H x y v u Q J rx ry ⟨I, dx, dy, h, R, hr, rdx, rdy, hf, go⟩
  unfold fEq at hf
  split at hf
  · cases rdx
    cases rdy
    refine op_eq pins s σ H _ _ v u Q J rx ry ⟨rfl, ?_⟩
    rw [dec_int]
    exact go.now hf hr (.bl _)
  · cases rdx
    cases rdy
    refine op_eq pins s σ H _ _ v u Q J rx ry ⟨rfl, ?_⟩
    rename_i a b
    have e : decide (V.str a = V.str b) = decide (a = b) := decide_eq_decide.mpr ⟨fun z => by injection z, fun z => by rw [z]⟩
    rw [e]
    exact go.now hf hr (.bl _)
  · cases rdx
    cases rdy
    refine op_eq pins s σ H _ _ v u Q J rx ry ⟨rfl, ?_⟩
    rename_i a b
    have e : decide (V.bl a = V.bl b) = decide (a = b) := decide_eq_decide.mpr ⟨fun z => by injection z, fun z => by rw [z]⟩
    rw [e]
    exact go.now hf hr (.bl _)
  · obtain ⟨a, b, e1, e2, s1, s2, hR⟩ := hf
    exact op_eqD hu pins s σ H _ _ v u Q J rx ry ⟨a, b, dp_vw hr rdx e1, dp_vw hr rdy e2, s1, s2, go.now hR hr (.bl _)⟩
theorem o_ne (hu : X.A.units + 64 < cLine) : DOp X (compareOp .NotEq) fNe := by
  intro pins s σ H x y v u Q J rx ry ⟨I, dx, dy, h, R, hr, rdx, rdy, hf, go⟩
  unfold fNe at hf
  split at hf
  · cases rdx
    cases rdy
    refine op_ne pins s σ H _ _ v u Q J rx ry ⟨rfl, ?_⟩
    rw [dec_int]
    exact go.now hf hr (.bl _)
  · cases rdx
    cases rdy
    refine op_ne pins s σ H _ _ v u Q J rx ry ⟨rfl, ?_⟩
    rename_i a b
    have e : decide (V.str a = V.str b) = decide (a = b) := decide_eq_decide.mpr ⟨fun z => by injection z, fun z => by rw [z]⟩
    rw [e]
    exact go.now hf hr (.bl _)
  · cases rdx
    cases rdy
    refine op_ne pins s σ H _ _ v u Q J rx ry ⟨rfl, ?_⟩
    rename_i a b
    have e : decide (V.bl a = V.bl b) = decide (a = b) := decide_eq_decide.mpr ⟨fun z => by injection z, fun z => by rw [z]⟩
    rw [e]
    exact go.now hf hr (.bl _)
  · obtain ⟨a, b, e1, e2, s1, s2, hR⟩ := hf
    exact op_neD hu pins s σ H _ _ v u Q J rx ry ⟨a, b, dp_vw hr rdx e1, dp_vw hr rdy e2, s1, s2, go.now hR hr (.bl _)⟩
end

/-! ### in, not in -/
def flatD : D → Bool
  | .non => true
  | .bl _ => true
  | .int _ => true
  | .str _ => true
  | _ => false
def eqF : D → D → Bool
  | .non, .non => true
  | .bl a, .bl b => a == b
  | .bl a, .int b => (if a then 1 else 0) == b
  | .int a, .bl b => a == (if b then 1 else 0)
  | .int a, .int b => a == b
  | .str a, .str b => a == b
  | _, _ => false
/-- x in a list or tuple of flat things; one sign in a text -/
def fIn (neg : Bool) : F2 := fun x y h R => match y with
  | .str z => ∃ c, x = .str ⟨#[c]⟩ ∧ R (.bl (if neg then !decide (c ∈ z.cps.toList) else decide (c ∈ z.cps.toList))) h
  | y => ∃ k ds, sqv h y = some (k, ds) ∧ flatD x = true ∧ ds.all flatD = true ∧ R (.bl (if neg then !(ds.any fun z => eqF z x) else ds.any fun z => eqF z x)) h
section
variable {X : Cx} {K : Fg} {H : Hp} {I : List Addr}
theorem flat_of {d : D} {v : V} (r : RD K H I d v) (f : flatD d = true) : flatV v = true := by
  cases r <;> first | rfl | cases f
theorem eqF_of {d e : D} {v w : V} (r : RD K H I d v) (q : RD K H I e w) (f : flatD d = true) (g : flatD e = true) : eqV v w = eqF d e := by
  cases r <;> cases q <;> first | rfl | exact absurd f Bool.false_ne_true | exact absurd g Bool.false_ne_true
theorem flats_of : ∀ {ds : List D} {vs : List V}, RDs K H I ds vs → ds.all flatD = true → vs.all flatV = true
  | _, _, .nil, _ => rfl
  | _, _, .cons a r, f => by
    rw [List.all_cons, Bool.and_eq_true] at f
    rw [List.all_cons, Bool.and_eq_true]
    exact ⟨flat_of a f.1, flats_of r f.2⟩
theorem anyF_of {d : D} {v : V} (q : RD K H I d v) (g : flatD d = true) : ∀ {ds : List D} {vs : List V}, RDs K H I ds vs → ds.all flatD = true → (vs.any fun y => eqV y v) = ds.any fun z => eqF z d
  | _, _, .nil, _ => rfl
  | _, _, .cons a r, f => by
    rw [List.all_cons, Bool.and_eq_true] at f
    rw [List.any_cons, List.any_cons, eqF_of a q f.1 g, anyF_of q g r f.2]
theorem o_in : DOp X (compareOp .In) (fIn false) := by
  intro pins s σ H x y v u Q J rx ry ⟨I, dx, dy, h, R, hr, rdx, rdy, hf, go⟩
  unfold fIn at hf
  split at hf
  · obtain ⟨c, rfl, hR⟩ := hf
    cases rdx
    cases rdy
    exact op_in_sign pins s σ H _ _ v u Q J rx ry ⟨c, _, rfl, rfl, go.now hR hr (.bl _)⟩
  · obtain ⟨k, ds, e, f1, f2, hR⟩ := hf
    obtain ⟨p, xs, rfl, hs, rs⟩ := sqv_ok hr rdy e
    refine op_in_seq pins s σ H _ _ v u Q J rx ry ⟨p, xs, rfl, hs.imp (·.2) (·.2), flat_of rdx f1, flats_of rs f2, ?_⟩
    unfold inV
    rw [anyF_of rdx f1 rs f2]
    exact go.now hR hr (.bl _)
theorem o_notIn : DOp X (compareOp .NotIn) (fIn true) := by
  intro pins s σ H x y v u Q J rx ry ⟨I, dx, dy, h, R, hr, rdx, rdy, hf, go⟩
  unfold fIn at hf
  split at hf
  · obtain ⟨c, rfl, hR⟩ := hf
    cases rdx
    cases rdy
    exact op_notIn_sign pins s σ H _ _ v u Q J rx ry ⟨c, _, rfl, rfl, go.now hR hr (.bl _)⟩
  · obtain ⟨k, ds, e, f1, f2, hR⟩ := hf
    obtain ⟨p, xs, rfl, hs, rs⟩ := sqv_ok hr rdy e
    refine op_notIn_seq pins s σ H _ _ v u Q J rx ry ⟨p, xs, rfl, hs.imp (·.2) (·.2), flat_of rdx f1, flats_of rs f2, ?_⟩
    unfold inV
    rw [anyF_of rdx f1 rs f2]
    exact go.now hR hr (.bl _)
end

/-! ### subscripts, slices -/
def fIx : F2 := fun x y h R => ∃ i, y = .int i ∧ match x with
  | .str z => z.length ≤ sizeLine ∧ ∃ c, atI z.cps.toList i = some c ∧ R (.str ⟨#[c]⟩) h
  | x => ∃ k ds d, sqv h x = some (k, ds) ∧ atI ds i = some d ∧ R d h
theorem atI_rd {K : Fg} {H : Hp} {I : List Addr} {ds : List D} {vs : List V} {i : Int} {d : D} (r : RDs K H I ds vs) (e : atI ds i = some d) : ∃ v, atI vs i = some v ∧ RD K H I d v := by
  unfold atI at e ⊢
  rw [← r.length]
  cases hx : ixN ds.length i with
  | none =>
    rw [hx] at e
    cases e
  | some j =>
    rw [hx] at e
    obtain ⟨v, h1, h2⟩ := r.get e
    exact ⟨v, h1, h2⟩
abbrev fSl := D → Option Int → Option Int → OS → DK → Prop
def cutD (xs : List D) (lo hi : Option Int) : List D := (xs.drop (HT.sIx xs.length 0 lo)).take (HT.sIx xs.length xs.length hi - HT.sIx xs.length 0 lo)
theorem cut_rd {K : Fg} {H : Hp} {I : List Addr} {ds : List D} {vs : List V} {lo hi : Option Int} (r : RDs K H I ds vs) : RDs K H I (cutD ds lo hi) (cutV vs lo hi) := by
  unfold cutD cutV
  rw [← r.length]
  exact (r.drop _).take _
def fCut : D → Option Int → Option Int → OS → DK → Prop := fun x lo hi h R => match x with
  | .str z => z.length ≤ sizeLine ∧ R (.str (cutS z lo hi)) h
  | x => ∃ k ds, sqv h x = some (k, ds) ∧ R (if k = true then .lst (cutD ds lo hi) else .tup (cutD ds lo hi)) h
/-- .. where the new list is to be one of ours -/
def fCutN : D → Option Int → Option Int → OS → DK → Prop := fun x lo hi h R => ∃ ds, sqv h x = some (true, ds) ∧ R (.ref h.length) (h ++ [.lst (cutD ds lo hi)])
def upS3 (K : Fg) (f : D → Option Int → Option Int → OS → DK → Prop) : V → Option Int → Option Int → Hp → VK → Prop := fun x lo hi H Q => ∃ I dx h R, HR K I h H ∧ RD K H I dx x ∧ f dx lo hi h R ∧ Go K I H R Q
abbrev TDO := DS → OS → (Option Int → OS → Prop) → Prop
def upO (K : Fg) (t : TDO) : TO := fun σ H Q => ∃ I δ h R, SR K H I δ σ ∧ HR K I h H ∧ t δ h R ∧ ∀ o h' I' H', R o h' → Stp I H I' H' → HR K I' h' H' → Q o H'
abbrev DO (X : Cx) (e : Option Expr) (t : TDO) : Prop := PO X e (upO X.K t)
def dNoPart : TDO := fun _ h R => R none h
def dPart (t : TDE) : TDO := fun δ h R => t δ h fun x h1 => ∃ i, x = .int i ∧ R (some i) h1
def dSl (f : D → Option Int → Option Int → OS → DK → Prop) (te : TDE) (tl th : TDO) : TDE := fun δ h R => te δ h fun x h1 => tl δ h1 fun l h2 => th δ h2 fun u h3 => f x l u h3 R
section
variable {X : Cx} {a b e : Expr} {ta tb te : TDE} {lo hi : Option Expr} {tl th : TDO} {pos p2 : Pos}
theorem o_ix : IxR X (up2 X.K fIx) := by
  intro value slice pins s σ H x y v u Q J rx ry ⟨I, dx, dy, h, R, hr, rdx, rdy, ⟨i, e1, hf⟩, go⟩ hs
  subst e1
  cases rdy
  split at hf
  · obtain ⟨hl, c, e2, hR⟩ := hf
    cases rdx
    exact ix_str value slice pins s σ H _ _ v u Q J rx ry ⟨_, i, c, rfl, rfl, hl, e2, go.now hR hr (.str _)⟩ hs
  · obtain ⟨k, ds, d, e2, e3, hR⟩ := hf
    obtain ⟨p, xs, rfl, hq, rs⟩ := sqv_ok hr rdx e2
    obtain ⟨w, e4, rw'⟩ := atI_rd rs e3
    rcases hq with ⟨_, hq⟩ | ⟨_, hq⟩
    · exact ix_list value slice pins s σ H _ _ v u Q J rx ry ⟨p, xs, i, w, rfl, rfl, hq, e4, go.now hR hr rw'⟩ hs
    · exact ix_tup value slice pins s σ H _ _ v u Q J rx ry ⟨p, xs, i, w, rfl, rfl, hq, e4, go.now hR hr rw'⟩ hs
theorem d_ix (ha : DE X a ta) (hb : DE X b tb) (hs : PlainIx b := by exact fun _ _ => rfl) : DE X (.Subscript a b pos) (dOp fIx ta tb) := PE.imp (pe_ix o_ix ha hb hs) fun _ _ _ => up_op
theorem do_none : DO X none dNoPart := ⟨fun pins s σ H Q J ⟨I, δ, h, R, sr, hr, r, g⟩ => po_none.run pins s σ H Q J (g none h I H r Stp.refl hr)⟩
theorem do_some (he : DE X e te) : DO X (some e) (dPart te) := ⟨fun pins s σ H Q J ⟨I, δ, h, R, sr, hr, r, g⟩ => (po_some he).run pins s σ H Q J
  ⟨I, δ, h, _, sr, hr, r, fun d h1 I1 H1 v ⟨i, e1, hR⟩ s1 hr1 rv => by
    subst e1
    cases rv
    exact ⟨i, rfl, g _ h1 I1 H1 hR s1 hr1⟩⟩⟩
theorem up_sl {K : Fg} {f : D → Option Int → Option Int → OS → DK → Prop} {σ : St} {H : Hp} {Q : VK} (q : up K (dSl f te tl th) σ H Q) : tSl (upS3 K f) (up K te) (upO K tl) (upO K th) σ H Q := by
  obtain ⟨I, δ, h, R, sr, hr, ht, g⟩ := q
  refine ⟨I, δ, h, _, sr, hr, ht, fun dx h1 I1 H1 x hR s1 hr1 rx => ?_⟩
  refine ⟨I1, δ, h1, _, sr.step s1, hr1, hR, fun l h2 I2 H2 hR2 s2 hr2 => ?_⟩
  refine ⟨I2, δ, h2, _, (sr.step s1).step s2, hr2, hR2, fun u h3 I3 H3 hR3 s3 hr3 => ?_⟩
  exact ⟨I3, dx, h3, R, hr3, rx.step (s2.trans s3), hR3, g.after (s1.trans (s2.trans s3))⟩
theorem o_cut : SlR X (upS3 X.K fCut) := by
  intro pins s σ H x v vl vu lo hi sl Q J rx hs pl pu ⟨I, dx, h, R, hr, rdx, hf, go⟩
  unfold fCut at hf
  split at hf
  · cases rdx
    exact sl_str pins s σ H _ v vl vu lo hi sl Q J rx hs pl pu ⟨_, rfl, hf.1, go.now hf.2 hr (.str _)⟩
  · obtain ⟨k, ds, e2, hR⟩ := hf
    obtain ⟨p, xs, rfl, hq, rs⟩ := sqv_ok hr rdx e2
    rcases hq with ⟨hk, hq⟩ | ⟨hk, hq⟩
    · subst hk
      exact sl_list pins s σ H _ v vl vu lo hi sl Q J rx hs pl pu ⟨p, xs, rfl, hq, go.lst hR hr (cut_rd rs)⟩
    · subst hk
      refine sl_tupA pins s σ H _ v vl vu lo hi sl Q J rx hs pl pu ⟨p, xs, rfl, hq, fun z => ?_, fun _ => go.tup hR hr (cut_rd rs)⟩
      have hR' : R (.tup (cutD ds lo hi)) h := hR
      have e : cutD ds lo hi = ds := by
        unfold cutD
        rw [rs.length, z.1, z.2]
        simp [rs.length.symm]
      rw [e] at hR'
      refine go.now hR' hr ?_
      cases dx with
      | tup es =>
        cases e2
        exact rdx
      | ref n =>
        unfold sqv at e2
        simp only at e2
        split at e2 <;> cases e2
      | _ => cases e2
theorem o_cutN : SlR X (upS3 X.K fCutN) := by
  intro pins s σ H x v vl vu lo hi sl Q J rx hs pl pu ⟨I, dx, h, R, hr, rdx, ⟨ds, e2, hR⟩, go⟩
  obtain ⟨p, xs, rfl, hq, rs⟩ := sqv_ok hr rdx e2
  rcases hq with ⟨hk, hq⟩ | ⟨hk, hq⟩
  · exact sl_list pins s σ H _ v vl vu lo hi sl Q J rx hs pl pu ⟨p, xs, rfl, hq, go.lstN hR hr (cut_rd rs)⟩
  · cases hk
theorem d_sl (he : DE X e te) (hl : DO X lo tl) (hh : DO X hi th) : DE X (.Subscript e (.Slice lo hi none p2) pos) (dSl fCut te tl th) := PE.imp (pe_slice o_cut he hl hh) fun _ _ _ => up_sl
theorem d_slN (he : DE X e te) (hl : DO X lo tl) (hh : DO X hi th) : DE X (.Subscript e (.Slice lo hi none p2) pos) (dSl fCutN te tl th) := PE.imp (pe_slice o_cutN he hl hh) fun _ _ _ => up_sl
end

/-! ### tests -/
def dAnd (t u : TDT) : TDT := fun δ h R => t δ h fun c h1 => if c = true then u δ h1 R else R false h1
def dOr (t u : TDT) : TDT := fun δ h R => t δ h fun c h1 => if c = true then R true h1 else u δ h1 R
def dNot (t : TDT) : TDT := fun δ h R => t δ h fun c h1 => R (!c) h1
/-- a truth as a test -/
def dB (t : TDE) : TDT := fun δ h R => t δ h fun x h1 => ∃ c, x = .bl c ∧ R c h1
def dIf (t : TDT) (ta tb : TDE) : TDE := fun δ h R => t δ h fun c h1 => if c = true then ta δ h1 R else tb δ h1 R
def dAndV (ta tb : TDE) : TDE := fun δ h R => ta δ h fun x h1 => ∃ c, x = .bl c ∧ if c = true then tb δ h1 R else R (.bl false) h1
def dOrV (ta tb : TDE) : TDE := fun δ h R => ta δ h fun x h1 => ∃ c, x = .bl c ∧ if c = true then R (.bl true) h1 else tb δ h1 R
def dNotV (ta : TDE) : TDE := fun δ h R => ta δ h fun x h1 => ∃ c, x = .bl c ∧ R (.bl (!c)) h1
def dChain (f f' : F2) (ta tb tc : TDE) : TDE := fun δ h R => ta δ h fun x h1 => tb δ h1 fun y h2 => f x y h2 fun z h3 => ∃ k, z = .bl k ∧ (if k = true then tc δ h3 fun w h4 => f' y w h4 R else R (.bl false) h3)
section
variable {X : Cx} {a b c : Expr} {t u : TDT} {ta tb tc : TDE} {pos : Pos} {rest : List Expr} {f f' : F2}
theorem upT_and {K : Fg} {σ : St} {H : Hp} {Q : Bool → Hp → Prop} (q : upT K (dAnd t u) σ H Q) : tAnd (upT K t) (upT K u) σ H Q := by
  obtain ⟨I, δ, h, R, sr, hr, ht, g⟩ := q
  refine ⟨I, δ, h, _, sr, hr, ht, fun b h1 I1 H1 hR s1 hr1 => ?_⟩
  cases b with
  | true => exact ⟨I1, δ, h1, R, sr.step s1, hr1, hR, g.after s1⟩
  | false => exact g _ h1 I1 H1 hR s1 hr1
theorem upT_or {K : Fg} {σ : St} {H : Hp} {Q : Bool → Hp → Prop} (q : upT K (dOr t u) σ H Q) : tOr (upT K t) (upT K u) σ H Q := by
  obtain ⟨I, δ, h, R, sr, hr, ht, g⟩ := q
  refine ⟨I, δ, h, _, sr, hr, ht, fun b h1 I1 H1 hR s1 hr1 => ?_⟩
  cases b with
  | true => exact g _ h1 I1 H1 hR s1 hr1
  | false => exact ⟨I1, δ, h1, R, sr.step s1, hr1, hR, g.after s1⟩
theorem w_and1 (ha : DT X a t) : DWt X (.BoolOp .And [a] pos) t := pw_and1 ha
theorem w_or1 (ha : DT X a t) : DWt X (.BoolOp .Or [a] pos) t := pw_or1 ha
theorem w_and (ha : DT X a t) (hb : DWt X (.BoolOp .And (b :: rest) pos) u) : DWt X (.BoolOp .And (a :: b :: rest) pos) (dAnd t u) := PW.imp (pw_and ha hb) fun _ _ _ => upT_and
theorem w_or (ha : DT X a t) (hb : DWt X (.BoolOp .Or (b :: rest) pos) u) : DWt X (.BoolOp .Or (a :: b :: rest) pos) (dOr t u) := PW.imp (pw_or ha hb) fun _ _ _ => upT_or
theorem t_w {e : Expr} (h : DWt X e t) : DT X e t := h.pt
theorem t_not (ha : DT X a t) : DT X (.UnaryOp .Not a pos) (dNot t) := PT.imp (pt_not ha) fun σ H Q ⟨I, δ, h, R, sr, hr, ht, g⟩ => ⟨I, δ, h, _, sr, hr, ht, fun b h1 I1 H1 hR s1 hr1 => g _ h1 I1 H1 hR s1 hr1⟩
theorem up_b {K : Fg} {σ : St} {H : Hp} {Q : Bool → Hp → Prop} (q : upT K (dB ta) σ H Q) : tB (up K ta) σ H Q := by
  obtain ⟨I, δ, h, R, sr, hr, ht, g⟩ := q
  refine ⟨I, δ, h, _, sr, hr, ht, fun d h1 I1 H1 v ⟨c, e, hR⟩ s1 hr1 rv => ?_⟩
  subst e
  cases rv
  exact ⟨c, rfl, g _ h1 I1 H1 hR s1 hr1⟩
/-- an expression (name, call, subscript, attribute) that is a truth -/
theorem t_val {e : Expr} (he : DE X e ta) (hw : ∀ whole, isTrue e X.env whole = (do let v ← whole; standAt e.pos; holding [v] (truthy v)) := by intro _; rfl) : DT X e (dB ta) := PT.imp (pt_val he hw) fun _ _ _ => up_b
theorem t_cmp {op : CmpOp} (ho : DOp X (compareOp op) f) (ha : DE X a ta) (hb : DE X b tb) (hm : behindInMarks op b = false := by first | exact nomark _ | with_unfolding_all rfl) : DT X (.Compare a [op] [b] pos) (dB (dOp f ta tb)) :=
  PT.imp (pt_cmpR ho ha hb hm) fun σ H Q q => up_op (by
    obtain ⟨I, δ, h, R, sr, hr, ht, g⟩ := q
    refine ⟨I, δ, h, _, sr, hr, ht, fun d h1 I1 H1 v ⟨c, e, hR⟩ s1 hr1 rv => ?_⟩
    subst e
    cases rv
    exact ⟨c, rfl, g _ h1 I1 H1 hR s1 hr1⟩)
theorem up_chain {K : Fg} {σ : St} {H : Hp} {Q : VK} (q : up K (dChain f f' ta tb tc) σ H Q) : tChain (up2 K f) (up2 K f') (up K ta) (up K tb) (up K tc) σ H Q := by
  obtain ⟨I, δ, h, R, sr, hr, ht, g⟩ := q
  refine ⟨I, δ, h, _, sr, hr, ht, fun dx h1 I1 H1 x hR s1 hr1 rx => ?_⟩
  refine ⟨I1, δ, h1, _, sr.step s1, hr1, hR, fun dy h2 I2 H2 y hR2 s2 hr2 ry => ?_⟩
  refine ⟨I2, dx, dy, h2, _, hr2, rx.step s2, ry, hR2, fun z h3 I3 H3 w ⟨k, e, hR3⟩ s3 hr3 rz => ?_⟩
  subst e
  cases rz
  refine ⟨k, rfl, ?_⟩
  cases k with
  | true =>
    refine ⟨I3, δ, h3, _, sr.step (s1.trans (s2.trans s3)), hr3, hR3, fun dw h4 I4 H4 w' hR4 s4 hr4 rw' => ?_⟩
    exact ⟨I4, dy, dw, h4, R, hr4, ry.step (s3.trans s4), rw', hR4, g.after (s1.trans (s2.trans (s3.trans s4)))⟩
  | false => exact g _ h3 I3 H3 _ hR3 (s1.trans (s2.trans s3)) hr3 (.bl _)
theorem d_chain {op op' : CmpOp} (ho : DOp X (compareOp op) f) (ho' : DOp X (compareOp op') f') (ha : DE X a ta) (hb : DE X b tb) (hc : DE X c tc) (hm : lastMarks [op, op'] [b, c] = false := by with_unfolding_all rfl) :
    DE X (.Compare a [op, op'] [b, c] pos) (dChain f f' ta tb tc) := PE.imp (pe_chain ho ho' ha hb hc hm) fun _ _ _ => up_chain
theorem t_chain {op op' : CmpOp} (ho : DOp X (compareOp op) f) (ho' : DOp X (compareOp op') f') (ha : DE X a ta) (hb : DE X b tb) (hc : DE X c tc) (hm : lastMarks [op, op'] [b, c] = false := by with_unfolding_all rfl) :
    DT X (.Compare a [op, op'] [b, c] pos) (dB (dChain f f' ta tb tc)) :=
  PT.imp (pt_chain ho ho' ha hb hc hm) fun σ H Q q => up_chain (by
    obtain ⟨I, δ, h, R, sr, hr, ht, g⟩ := q
    refine ⟨I, δ, h, _, sr, hr, ht, fun d h1 I1 H1 v ⟨c, e, hR⟩ s1 hr1 rv => ?_⟩
    subst e
    cases rv
    exact ⟨c, rfl, g _ h1 I1 H1 hR s1 hr1⟩)
theorem d_ifExp (hc : DT X c t) (ha : DE X a ta) (hb : DE X b tb) : DE X (.IfExp c a b pos) (dIf t ta tb) := by
  refine PE.imp (pe_ifExp hc ha hb) fun σ H Q ⟨I, δ, h, R, sr, hr, ht, g⟩ => ?_
  refine ⟨I, δ, h, _, sr, hr, ht, fun b h1 I1 H1 hR s1 hr1 => ?_⟩
  cases b with
  | true => exact ⟨I1, δ, h1, R, sr.step s1, hr1, hR, g.after s1⟩
  | false => exact ⟨I1, δ, h1, R, sr.step s1, hr1, hR, g.after s1⟩
theorem d_one {op : BoolOp} (ha : DE X a ta) : DE X (.BoolOp op [a] pos) ta := pe_one ha
theorem d_and (ha : DE X a ta) (hb : DE X (.BoolOp .And (b :: rest) pos) tb) : DE X (.BoolOp .And (a :: b :: rest) pos) (dAndV ta tb) := by
  refine PE.imp (pe_and ha hb) fun σ H Q ⟨I, δ, h, R, sr, hr, ht, g⟩ => ?_
  refine ⟨I, δ, h, _, sr, hr, ht, fun x h1 I1 H1 v ⟨c, e, hR⟩ s1 hr1 rv => ?_⟩
  subst e
  cases rv
  refine ⟨c, rfl, ?_⟩
  cases c with
  | true => exact ⟨I1, δ, h1, R, sr.step s1, hr1, hR, g.after s1⟩
  | false => exact g _ h1 I1 H1 _ hR s1 hr1 (.bl _)
theorem d_or (ha : DE X a ta) (hb : DE X (.BoolOp .Or (b :: rest) pos) tb) : DE X (.BoolOp .Or (a :: b :: rest) pos) (dOrV ta tb) := by
  refine PE.imp (pe_or ha hb) fun σ H Q ⟨I, δ, h, R, sr, hr, ht, g⟩ => ?_
  refine ⟨I, δ, h, _, sr, hr, ht, fun x h1 I1 H1 v ⟨c, e, hR⟩ s1 hr1 rv => ?_⟩
  subst e
  cases rv
  refine ⟨c, rfl, ?_⟩
  cases c with
  | true => exact g _ h1 I1 H1 _ hR s1 hr1 (.bl _)
  | false => exact ⟨I1, δ, h1, R, sr.step s1, hr1, hR, g.after s1⟩
theorem d_not (ha : DE X a ta) : DE X (.UnaryOp .Not a pos) (dNotV ta) := by
  refine PE.imp (pe_not ha) fun σ H Q ⟨I, δ, h, R, sr, hr, ht, g⟩ => ?_
  refine ⟨I, δ, h, _, sr, hr, ht, fun x h1 I1 H1 v ⟨c, e, hR⟩ s1 hr1 rv => ?_⟩
  subst e
  cases rv
  exact ⟨c, rfl, g _ h1 I1 H1 _ hR s1 hr1 (.bl _)⟩
end
end FL
/-! Statements over data. -/
namespace FL
open PySem L2

/-! ### forgetting: what nobody asks any more -/
mutual
def okR (n : Nat) : D → Prop
  | .ref i => i < n
  | .tup ds => okRs n ds
  | .lst ds => okRs n ds
  | .scr ds => okRs n ds
  | .dct _ ds => okRs n ds
  | .ins _ _ ds => okRs n ds
  | .non => True
  | .bl _ => True
  | .int _ => True
  | .str _ => True
  | .ty _ => True
  | .obj _ => True
def okRs (n : Nat) : List D → Prop
  | [] => True
  | d :: ds => okR n d ∧ okRs n ds
end
theorem okRs_iff {n : Nat} : ∀ {ds : List D}, okRs n ds ↔ ∀ d ∈ ds, okR n d
  | [] => by simp [okRs]
  | d :: ds => by
    unfold okRs
    rw [okRs_iff (ds := ds)]
    simp
def okO (n : Nat) : O → Prop
  | .lst ds => okRs n ds
  | .dct qs => okRs n (qs.map (·.2))
  | .ins _ qs => okRs n (qs.map (·.2))
def okOs (n : Nat) : OS → Prop
  | [] => True
  | o :: os => okO n o ∧ okOs n os
theorem okOs_iff {n : Nat} : ∀ {os : OS}, okOs n os ↔ ∀ o ∈ os, okO n o
  | [] => by simp [okOs]
  | d :: ds => by
    unfold okOs
    rw [okOs_iff (os := ds)]
    simp
def okS (n : Nat) : DS → Prop
  | [] => True
  | some d :: r => okR n d ∧ okS n r
  | none :: r => okS n r
theorem okS_at {n : Nat} : ∀ {δ : DS} {i : Nat} {d : D}, okS n δ → δ[i]? = some (some d) → okR n d
  | [], _, _, _, e => by cases e
  | some x :: r, 0, _, h, e => by
    cases e
    exact h.1
  | none :: r, 0, _, h, e => by cases e
  | some x :: r, i + 1, _, h, e => okS_at (i := i) h.2 e
  | none :: r, i + 1, _, h, e => okS_at (i := i) (show okS n r from h) e
section
variable {K : Fg} {H : Hp} {I : List Addr} {n : Nat}
theorem ST.take {p : Addr} {xs : List V} (h : ST K H I p xs) : ST K H (I.take n) p xs := by
  rcases h with ⟨h, q⟩ | h
  · exact Or.inl ⟨h, fun m => q (List.mem_of_mem_take m)⟩
  · exact Or.inr h
theorem SZ.take {p : Addr} {xs : List V} (h : SZ K H I p xs) : SZ K H (I.take n) p xs := by
  rcases h with ⟨o, h, q⟩ | h
  · exact Or.inl ⟨o, h, fun m => q (List.mem_of_mem_take m)⟩
  · exact Or.inr h
mutual
theorem RD.take : ∀ {d : D} {v : V}, okR n d → RD K H I d v → RD K H (I.take n) d v
  | _, _, _, .non => .non
  | _, _, _, .bl b => .bl b
  | _, _, _, .int i => .int i
  | _, _, _, .str x => .str x
  | _, _, _, .ty x => .ty x
  | _, _, _, .obj a => .obj a
  | _, _, k, .ref e => .ref (by rw [List.getElem?_take_of_lt (show _ < n from k)]; exact e)
  | _, _, k, .scr e r => .scr e.take (RDs.takeI k r)
  | _, _, k, .tup e r => .tup e.take (RDs.takeI k r)
  | _, _, k, .lst e q r => .lst e (fun m => q (List.mem_of_mem_take m)) (RDs.takeI k r)
  | _, _, k, .dct e q hk r => .dct e (fun m => q (List.mem_of_mem_take m)) hk (RDs.takeI k r)
  | _, _, k, .ins e q hk r => .ins e (fun m => q (List.mem_of_mem_take m)) hk (RDs.takeI k r)
theorem RDs.takeI : ∀ {ds : List D} {vs : List V}, okRs n ds → RDs K H I ds vs → RDs K H (I.take n) ds vs
  | _, _, _, .nil => .nil
  | _, _, k, .cons a r => .cons (RD.take k.1 a) (RDs.takeI k.2 r)
end
theorem HR.drop {h g : OS} (r : HR K I (h ++ g) H) (k : okOs h.length h) : HR K (I.take h.length) h H := by
  refine ⟨?_, r.nd.sublist (List.take_sublist _ _), fun i a o hi ho => ?_⟩
  · rw [List.length_take, r.len, List.length_append]
    omega
  · have hl : i < h.length := (List.getElem?_eq_some_iff.mp ho).1
    rw [List.getElem?_take_of_lt hl] at hi
    have := r.ob i a o hi (by rw [List.getElem?_append_left hl]; exact ho)
    have k1 : okO h.length o := okOs_iff.mp k o (List.mem_of_getElem? ho)
    cases o with
    | lst ds =>
      obtain ⟨xs, q, r⟩ := this
      exact ⟨xs, q, RDs.takeI k1 r⟩
    | dct qs =>
      obtain ⟨xs, q, hk, r⟩ := this
      exact ⟨xs, q, hk, RDs.takeI k1 r⟩
    | ins C qs =>
      obtain ⟨dx, xs, q, hk, r⟩ := this
      exact ⟨dx, xs, q, hk, RDs.takeI k1 r⟩
theorem Stp.drop {I' : List Addr} {H' : Hp} (s : Stp I H I' H') (hn : I.length ≤ n) : Stp I H (I'.take n) H' := by
  refine ⟨?_, s.keep, s.live⟩
  obtain ⟨new, rfl, f⟩ := s.pre
  refine ⟨new.take (n - I.length), ?_, fun p hp => f p (List.mem_of_mem_take hp)⟩
  rw [List.take_append, List.take_of_length_le hn]
end
/-- slots forgotten -/
def Less (δ' δ : DS) : Prop := δ'.length = δ.length ∧ ∀ (i : Nat) (d : D), δ'[i]? = some (some d) → δ[i]? = some (some d)
theorem Less.refl {δ : DS} : Less δ δ := ⟨rfl, fun _ _ e => e⟩
theorem less_nil : Less [] [] := Less.refl
theorem less_keep {x : Option D} {δ' δ : DS} (h : Less δ' δ) : Less (x :: δ') (x :: δ) := by
  refine ⟨by rw [List.length_cons, List.length_cons, h.1], fun i d e => ?_⟩
  cases i with
  | zero => exact e
  | succ i => exact h.2 i d e
theorem less_drop {x : Option D} {δ' δ : DS} (h : Less δ' δ) : Less (none :: δ') (x :: δ) := by
  refine ⟨by rw [List.length_cons, List.length_cons, h.1], fun i d e => ?_⟩
  cases i with
  | zero => cases e
  | succ i => exact h.2 i d e
/-- from (δ, h) to (δ', h'): some slots are forgotten; or the objects behind h' too -/
structure DrpH (m : Nat) (δ : DS) (h : OS) (δ' : DS) (h' : OS) : Prop where
  ls : Less δ' δ
  hp : ∃ g, h = h' ++ g
  lo : m ≤ h'.length
  oS : okS h'.length δ'
  oO : okOs h'.length h'
def Drp (m : Nat) (δ : DS) (h : OS) (δ' : DS) (h' : OS) : Prop := (h' = h ∧ Less δ' δ) ∨ DrpH m δ h δ' h'
theorem Drp.keep {m : Nat} {δ δ' : DS} {h : OS} (l : Less δ' δ) : Drp m δ h δ' h := Or.inl ⟨rfl, l⟩
theorem Drp.use {K : Fg} {H H0 : Hp} {I I0 : List Addr} {m : Nat} {δ δ' : DS} {h h' : OS} {σ : St} (d : Drp m δ h δ' h') (hm : I0.length = m) (r : SR K H I δ σ) (hr : HR K I h H) (st : Stp I0 H0 I H) :
    ∃ I', SR K H I' δ' σ ∧ HR K I' h' H ∧ Stp I0 H0 I' H := by
  rcases d with ⟨rfl, l⟩ | d
  · exact ⟨I, ⟨l.1.trans r.1, fun i x e => r.2 i x (l.2 i x e)⟩, hr, st⟩
  · refine ⟨I.take h'.length, ⟨d.ls.1.trans r.1, fun i x e => ?_⟩, ?_, st.drop ?_⟩
    · obtain ⟨v, q, a⟩ := r.2 i x (d.ls.2 i x e)
      exact ⟨v, q, a.take (okS_at d.oS e)⟩
    · obtain ⟨g, rfl⟩ := d.hp
      exact hr.drop d.oO
    · rw [hm]
      exact d.lo

/-! ### statements -/
structure DEnds where
  nx : DS → OS → Prop
  rt : DK
  bk : DS → OS → Prop := fun _ _ => False
  ct : DS → OS → Prop := fun _ _ => False
abbrev TDS := DEnds → DS → OS → Prop
def GoN (K : Fg) (I : List Addr) (H : Hp) (R : DS → OS → Prop) (Q : St → Hp → Prop) : Prop := ∀ δ' h' I' H' σ', R δ' h' → Stp I H I' H' → HR K I' h' H' → SR K H' I' δ' σ' → Q σ' H'
theorem GoN.after {K : Fg} {I I1 : List Addr} {H H1 : Hp} {R : DS → OS → Prop} {Q : St → Hp → Prop} (g : GoN K I H R Q) (s : Stp I H I1 H1) : GoN K I1 H1 R Q := fun d h' I' H' v r s2 => g d h' I' H' v r (s.trans s2)
structure GoS (K : Fg) (I : List Addr) (H : Hp) (ED : DEnds) (E : Ends) : Prop where
  nx : GoN K I H ED.nx E.nx
  rt : Go K I H ED.rt E.rt
  bk : GoN K I H ED.bk E.bk
  ct : GoN K I H ED.ct E.ct
theorem GoS.after {K : Fg} {I I1 : List Addr} {H H1 : Hp} {ED : DEnds} {E : Ends} (g : GoS K I H ED E) (s : Stp I H I1 H1) : GoS K I1 H1 ED E := ⟨g.nx.after s, g.rt.after s, g.bk.after s, g.ct.after s⟩
def upS (K : Fg) (t : TDS) : TS := fun E σ H => ∃ I δ h ED, SR K H I δ σ ∧ HR K I h H ∧ t ED δ h ∧ GoS K I H ED E
abbrev DSt (X : Cx) (st : Stmt) (t : TDS) : Prop := PS X st (upS X.K t)
abbrev DSs (X : Cx) (st : List Stmt) (t : TDS) : Prop := PSs X st (upS X.K t)
def dNext : TDS := fun E δ h => E.nx δ h
def dSeq (t u : TDS) : TDS := fun E δ h => t { E with nx := u E } δ h
def dBreak : TDS := fun E δ h => E.bk δ h
def dCont : TDS := fun E δ h => E.ct δ h
def dDrop (te : TDE) : TDS := fun E δ h => te δ h fun _ h1 => E.nx δ h1
def dRet (te : TDE) : TDS := fun E δ h => te δ h E.rt
def dRetN : TDS := fun E _ h => E.rt .non h
def dIfS (c : TDT) (t u : TDS) : TDS := fun E δ h => c δ h fun b h1 => if b = true then t E δ h1 else u E δ h1
section
variable {X : Cx} {st : Stmt} {rest : List Stmt} {t u : TDS} {e : Expr} {te : TDE} {pos : Pos}
theorem s_nil : DSs X [] dNext := PSs.imp pss_nil fun E σ H ⟨I, δ, h, ED, sr, hr, q, g⟩ => g.nx δ h I H σ q Stp.refl hr sr
theorem s_cons (h1 : DSt X st t) (h2 : DSs X rest u) : DSs X (st :: rest) (dSeq t u) :=
  PSs.imp (pss_cons h1 h2) fun E σ H ⟨I, δ, h, ED, sr, hr, q, g⟩ => ⟨I, δ, h, { ED with nx := u ED }, sr, hr, q, fun δ' h' I' H' σ' r s1 hr1 sr1 => ⟨I', δ', h', ED, sr1, hr1, r, g.after s1⟩, g.rt, g.bk, g.ct⟩
theorem s_one (h1 : DSt X st t) : DSs X [st] t := pss_one h1
theorem s_pass : DSt X (.Pass pos) dNext := PS.imp ps_pass fun E σ H ⟨I, δ, h, ED, sr, hr, q, g⟩ => g.nx δ h I H σ q Stp.refl hr sr
theorem s_break : DSt X (.Break pos) dBreak := PS.imp ps_break fun E σ H ⟨I, δ, h, ED, sr, hr, q, g⟩ => g.bk δ h I H σ q Stp.refl hr sr
theorem s_continue : DSt X (.Continue pos) dCont := PS.imp ps_continue fun E σ H ⟨I, δ, h, ED, sr, hr, q, g⟩ => g.ct δ h I H σ q Stp.refl hr sr
theorem s_expr (he : DE X e te) (hs : swapsWith e none pos.line X.env = pure false := by rfl) : DSt X (.Expr e pos) (dDrop te) :=
  PS.imp (ps_expr he hs) fun E σ H ⟨I, δ, h, ED, sr, hr, q, g⟩ => ⟨I, δ, h, _, sr, hr, q, fun d h1 I1 H1 v r s1 hr1 rv => g.nx δ h1 I1 H1 σ r s1 hr1 (sr.step s1)⟩
theorem s_ret (he : DE X e te) : DSt X (.Return (some e) pos) (dRet te) :=
  PS.imp (ps_ret he) fun E σ H ⟨I, δ, h, ED, sr, hr, q, g⟩ => ⟨I, δ, h, _, sr, hr, q, g.rt⟩
theorem s_retN : DSt X (.Return none pos) dRetN :=
  PS.imp ps_retN fun E σ H ⟨I, δ, h, ED, sr, hr, q, g⟩ => g.rt.now q hr .non
theorem s_if {c : Expr} {a b : List Stmt} {tc : TDT} (hc : DT X c tc) (ha : DSs X a t) (hb : DSs X b u) : DSt X (.If c a b pos) (dIfS tc t u) := by
  refine PS.imp (ps_if hc ha hb) fun E σ H ⟨I, δ, h, ED, sr, hr, q, g⟩ => ?_
  refine ⟨I, δ, h, _, sr, hr, q, fun b h1 I1 H1 r s1 hr1 => ?_⟩
  cases b with
  | true => exact ⟨I1, δ, h1, ED, sr.step s1, hr1, r, g.after s1⟩
  | false => exact ⟨I1, δ, h1, ED, sr.step s1, hr1, r, g.after s1⟩
end

/-! ### targets -/
abbrev TDG := D → DS → OS → (DS → OS → Prop) → Prop
abbrev TDGs := List D → DS → OS → (DS → OS → Prop) → Prop
def upG (K : Fg) (t : TDG) : TG := fun v σ H Q => ∃ I d δ h R, SR K H I δ σ ∧ HR K I h H ∧ RD K H I d v ∧ t d δ h R ∧ GoN K I H R Q
def upGs (K : Fg) (t : TDGs) : TGs := fun vs σ H Q => ∃ I ds δ h R, SR K H I δ σ ∧ HR K I h H ∧ RDs K H I ds vs ∧ t ds δ h R ∧ GoN K I H R Q
abbrev DG (X : Cx) (e : Expr) (t : TDG) : Prop := PG X e (upG X.K t)
abbrev DGs (X : Cx) (e : List Expr) (t : TDGs) : Prop := PGs X e (upGs X.K t)
theorem PG.imp {X : Cx} {e : Expr} {t t' : TG} (h : PG X e t) (i : ∀ v σ H Q, t' v σ H Q → t v σ H Q) : PG X e t' := ⟨fun pins s σ H v u Q I r q => h.run pins s σ H v u Q I r (i v σ H Q q)⟩
theorem PGs.imp {X : Cx} {e : List Expr} {t t' : TGs} (h : PGs X e t) (i : ∀ v σ H Q, t' v σ H Q → t v σ H Q) : PGs X e t' := ⟨fun pins s σ H v u Q I r q => h.run pins s σ H v u Q I r (i v σ H Q q)⟩
def gN (i : Nat) : TDG := fun d δ h R => R (δ.set i (some d)) h
def gsNil : TDGs := fun ds δ h R => ds = [] ∧ R δ h
def gsCons (t : TDG) (u : TDGs) : TDGs := fun ds δ h R => ∃ d r, ds = d :: r ∧ t d δ h fun δ' h' => u r δ' h' R
/-- a tuple's parts -/
def gT (n : Nat) (t : TDGs) : TDG := fun d δ h R => ∃ ds, d = .tup ds ∧ ds.length = n ∧ t ds δ h R
section
variable {X : Cx} {pos : Pos}
theorem g_name {i : Nat} {x : Str} (hN : X.N.Nodup) (hi : X.N[i]? = some x) (hx : Loc X.env.scope x) (hf : X.fn x = true ∨ X.env.scope.names.lookup x = some .local := by first | exact .inl rfl | exact .inr rfl | assumption) : DG X (.Name x pos) (gN i) :=
  PG.imp (pg_name hN hi hx hf) fun v σ H Q ⟨I, d, δ, h, R, sr, hr, rd, q, g⟩ => g _ h I H _ q Stp.refl hr (sr.set i rd)
theorem gs_nil : DGs X [] gsNil := PGs.imp pgs_nil fun vs σ H Q ⟨I, ds, δ, h, R, sr, hr, rd, ⟨e, q⟩, g⟩ => by
  subst e
  cases rd
  exact ⟨rfl, g _ h I H _ q Stp.refl hr sr⟩
theorem gs_cons {e : Expr} {es : List Expr} {t : TDG} {u : TDGs} (h1 : DG X e t) (h2 : DGs X es u)
    (hs : (assignEach (e :: es) X.env).map (·.2) = assign e X.env :: (assignEach es X.env).map (·.2) := by rfl) : DGs X (e :: es) (gsCons t u) :=
  PGs.imp (pgs_cons h1 h2 hs) fun vs σ H Q ⟨I, ds, δ, h, R, sr, hr, rd, ⟨d, r, e, q⟩, g⟩ => by
    subst e
    cases rd with
    | cons a b =>
      exact ⟨_, _, rfl, I, d, δ, h, _, sr, hr, a, q, fun δ1 h1 I1 H1 σ1 q1 s1 hr1 sr1 => ⟨I1, r, δ1, h1, R, sr1, hr1, b.step s1, q1, g.after s1⟩⟩
theorem g_tup {es : List Expr} {k : Nat} {t : TDGs} {n : Nat} (hc : X.calm = true) (h : DGs X es t)
    (hn : (assignEach es X.env).length = n := by rfl) (hst : (assignEach es X.env).findIdx? (·.1) = none := by rfl) : DG X (.Tuple es k pos) (gT n t) :=
  PG.imp (pg_tup hc h hn hst) fun v σ H Q ⟨I, d, δ, h, R, sr, hr, rd, ⟨ds, e, hl, q⟩, g⟩ => by
    subst e
    cases rd with
    | tup a b => exact ⟨_, _, rfl, a.sq, by rw [← b.length]; exact hl, I, ds, δ, h, R, sr, hr, b, q, g⟩
/-- xs[i] = v, a list of ours -/
def fSetL : D → D → D → OS → (OS → Prop) → Prop := fun o i v h R => ∃ n k ds j, o = .ref n ∧ i = .int k ∧ h[n]? = some (.lst ds) ∧ ixN ds.length k = some j ∧ R (h.set n (.lst (ds.set j v)))
def gSubL (to ti : TDE) : TDG := fun d δ h R => to δ h fun o h1 => ti δ h1 fun i h2 => fSetL o i d h2 fun h3 => R δ h3
def upSet (K : Fg) (f : D → D → D → OS → (OS → Prop) → Prop) : TSet := fun o i v H Q => ∃ I do_ di d h R, HR K I h H ∧ RD K H I do_ o ∧ RD K H I di i ∧ RD K H I d v ∧ f do_ di d h R ∧ ∀ h' I' H', R h' → Stp I H I' H' → HR K I' h' H' → Q H'
theorem o_setL : PSet X (upSet X.K fSetL) := by
  intro pins s σ H o i v ov iv u Q J ro ri rv ⟨I, do_, di, d, h, R, hr, rdo, rdi, rd, ⟨n, k, ds, j, e1, e2, e3, e4, hR⟩, g⟩
  subst e1 e2
  obtain ⟨a, rfl, q⟩ := rdo.refv
  cases rdi
  obtain ⟨xs, q2, r2⟩ := hr.ob n a _ q e3
  refine set_list pins s σ H _ _ v ov iv u Q J ro ri rv ⟨a, xs, k, j, rfl, rfl, q2, by rw [← r2.length]; exact e4, ?_⟩
  have m : a ∈ I := List.mem_of_getElem? q
  have s1 : Stp I H I (upd H a (.lst (xs.set j v))) := Stp.put m ⟨_, q2⟩
  exact g _ I _ hR s1 (hr.put q ⟨_, upd_same, (r2.set rd j).step s1⟩)
theorem g_subL {o i : Expr} {to ti : TDE} (ho : DE X o to) (hi : DE X i ti)
    (ha : ∀ v, assign (.Subscript o i pos) X.env v = (do
      let ov ← holding [v] (eval o X.env)
      let iv ← holding [v, ov] (eval i X.env)
      standAt pos
      holding [v, ov, iv] (setItem ov iv v)
      release [v, ov, iv] []) := by intro _; rfl) : DG X (.Subscript o i pos) (gSubL to ti) :=
  PG.imp (pg_sub ho hi o_setL ha) fun v σ H Q ⟨I, d, δ, h, R, sr, hr, rd, q, g⟩ =>
    ⟨I, δ, h, _, sr, hr, q, fun do_ h1 I1 H1 ov q1 s1 hr1 rdo => ⟨I1, δ, h1, _, sr.step s1, hr1, q1, fun di h2 I2 H2 iv q2 s2 hr2 rdi =>
      ⟨I2, do_, di, d, h2, _, hr2, rdo.step s2, rdi, rd.step (s1.trans s2), q2, fun h3 I3 H3 q3 s3 hr3 => g δ h3 I3 H3 σ q3 (s1.trans (s2.trans s3)) hr3 (sr.step (s1.trans (s2.trans s3)))⟩⟩⟩
def dAsg (te : TDE) (g : TDG) : TDS := fun E δ h => te δ h fun x h1 => g x δ h1 E.nx
theorem s_asg {tg e : Expr} {te : TDE} {g : TDG} (he : DE X e te) (hg : DG X tg g) (hs : swapsWithSole [tg] e pos.line X.env = pure false := by rfl) (hw : swappedStores [tg] e X.env = pure none := by rfl)
    (h1 : (assignEach [tg] X.env).map (·.2) = [assign tg X.env] := by rfl) : DSt X (.Assign [tg] e pos) (dAsg te g) :=
  PS.imp (ps_asg he hg hs hw h1) fun E σ H ⟨I, δ, h, ED, sr, hr, q, g⟩ =>
    ⟨I, δ, h, _, sr, hr, q, fun d h1 I1 H1 v q1 s1 hr1 rd => ⟨I1, d, δ, h1, ED.nx, sr.step s1, hr1, rd, q1, g.nx.after s1⟩⟩
theorem s_set {i : Nat} {x : Str} {e : Expr} {te : TDE} {pos' : Pos} (hN : X.N.Nodup) (hi : X.N[i]? = some x) (hx : Loc X.env.scope x) (he : DE X e te) (hs : swapsWith e (some (.Name x pos')) pos.line X.env = pure false := by rfl) (hf : X.fn x = true ∨ X.env.scope.names.lookup x = some .local := by first | exact .inl rfl | exact .inr rfl | assumption) :
    DSt X (.Assign [.Name x pos'] e pos) (dAsg te (gN i)) :=
  PS.imp (ps_set hN hi hx he hs hf) fun E σ H ⟨I, δ, h, ED, sr, hr, q, g⟩ =>
    ⟨I, δ, h, _, sr, hr, q, fun d h1 I1 H1 v q1 s1 hr1 rd => g.nx _ h1 I1 H1 _ q1 s1 hr1 ((sr.step s1).set i rd)⟩
/-- a, b = x, y with local names -/
def dPar (i j : Nat) (ta : TDA) : TDS := fun E δ h => ta δ h fun ds h1 => ∃ x y, ds = [x, y] ∧ E.nx ((δ.set i (some x)).set j (some y)) h1
theorem s_par {i j : Nat} {x y : Str} {a b : Expr} {ta : TDA} {px py pt : Pos} {kt k2 : Nat} {pt2 : Pos} (hc : X.calm = true) (hN : X.N.Nodup) (hi : X.N[i]? = some x) (hj : X.N[j]? = some y) (hij : i ≠ j)
    (hx : X.env.scope.names.lookup x = some .local) (hy : X.env.scope.names.lookup y = some .local) (ha : DA X [a, b] ta)
    (hw : swappedStores [.Tuple [.Name x px, .Name y py] kt pt] (.Tuple [a, b] k2 pt2) X.env = pure (some [x, y]))
    (hs : swapsWithSole [.Tuple [.Name x px, .Name y py] kt pt] (.Tuple [a, b] k2 pt2) pos.line X.env = pure false := by rfl) :
    DSt X (.Assign [.Tuple [.Name x px, .Name y py] kt pt] (.Tuple [a, b] k2 pt2) pos) (dPar i j ta) :=
  PS.imp (ps_par hc hN hi hj hij hx hy ha hw hs) fun E σ H ⟨I, δ, h, ED, sr, hr, q, g⟩ =>
    ⟨I, δ, h, _, sr, hr, q, fun ds h1 I1 H1 vs ⟨dx, dy, e, q1⟩ s1 hr1 rd => by
      subst e
      cases rd with
      | cons r1 rd =>
      cases rd with
      | cons r2 rd =>
      cases rd
      exact ⟨_, _, rfl, g.nx _ h1 I1 H1 _ q1 s1 hr1 (((sr.step s1).set i r1).set j r2)⟩⟩
/-- name += e, of ints -/
def dAugI (f : Int → Int → Int) (i : Nat) (te : TDE) : TDS := fun E δ h => ∃ a, δ[i]? = some (some (.int a)) ∧ te δ h fun y h1 => ∃ b, y = .int b ∧ E.nx (δ.set i (some (.int (f a b)))) h1
theorem aug_of {K : Fg} {f : Int → Int → Int} {i : Nat} {te : TDE} {E : Ends} {σ : St} {H : Hp} (q : upS K (dAugI f i te) E σ H) : tAug i (up K te) (ipI f) E σ H := by
  obtain ⟨I, δ, h, ED, sr, hr, ⟨a, e, q⟩, g⟩ := q
  obtain ⟨v, e2, r⟩ := sr.2 i _ e
  cases r
  refine ⟨_, e2, I, δ, h, _, sr, hr, q, fun d h1 I1 H1 w ⟨b, e3, q1⟩ s1 hr1 rd => ?_⟩
  subst e3
  cases rd
  exact ⟨a, b, rfl, rfl, g.nx _ h1 I1 H1 _ q1 s1 hr1 ((sr.step s1).set i (.int _))⟩
theorem s_addTo {i : Nat} {x : Str} {e : Expr} {te : TDE} {pos' : Pos} (hN : X.N.Nodup) (hi : X.N[i]? = some x) (hx : Loc X.env.scope x) (he : DE X e te) (hf : X.fn x = true ∨ X.env.scope.names.lookup x = some .local := by first | exact .inl rfl | exact .inr rfl | assumption) :
    DSt X (.AugAssign (.Name x pos') .Add e pos) (dAugI (fun i j => i + j) i te) := PS.imp (ps_aug hN hi hx he ip_add hf) fun _ _ _ => aug_of
theorem s_subTo {i : Nat} {x : Str} {e : Expr} {te : TDE} {pos' : Pos} (hN : X.N.Nodup) (hi : X.N[i]? = some x) (hx : Loc X.env.scope x) (he : DE X e te) (hf : X.fn x = true ∨ X.env.scope.names.lookup x = some .local := by first | exact .inl rfl | exact .inr rfl | assumption) :
    DSt X (.AugAssign (.Name x pos') .Sub e pos) (dAugI (fun i j => i - j) i te) := PS.imp (ps_aug hN hi hx he ip_sub hf) fun _ _ _ => aug_of
end

/-! ### loops -/
structure Src where
  items : List D
  G : OS → Prop
abbrev TDI := DS → OS → (Src → OS → Prop) → Prop
structure WalkD (K : Fg) (I : List Addr) (H : Hp) (J : It) (S : Src) : Prop where
  goes : ∀ i I2 H2 h2, Stp I H I2 H2 → HR K I2 h2 H2 → S.G h2 → i < S.items.length → J.go i H2
  stops : ∀ I2 H2 h2, Stp I H I2 H2 → HR K I2 h2 H2 → S.G h2 → J.stop S.items.length H2
  yields : ∀ i I2 H2 h2 d x H3, Stp I H I2 H2 → HR K I2 h2 H2 → S.G h2 → S.items[i]? = some d → J.yld i H2 x H3 → Stp I2 H2 I2 H3 ∧ HR K I2 h2 H3 ∧ RD K H3 I2 d x
def upI (K : Fg) (t : TDI) : TI := fun σ H R => ∃ I δ h RS, SR K H I δ σ ∧ HR K I h H ∧ t δ h RS ∧ ∀ S h' I' H' J, RS S h' → Stp I H I' H' → HR K I' h' H' → WalkD K I' H' J S → R J H'
abbrev DI (X : Cx) (tg e : Expr) (t : TDI) : Prop := PI X tg e (upI X.K t)
theorem PI.imp {X : Cx} {tg e : Expr} {t t' : TI} (h : PI X tg e t) (i : ∀ σ H R, t' σ H R → t σ H R) : PI X tg e t' := ⟨fun pins s σ H R I q => h.run pins s σ H R I (i σ H R q)⟩
/-- a list or a tuple -/
def iSeq (te : TDE) : TDI := fun δ h RS => te δ h fun x h1 => match x with
  | .ref n => ∃ ds, h1[n]? = some (.lst ds) ∧ RS ⟨ds, fun h => h[n]? = some (.lst ds)⟩ h1
  | x => ∃ ds, sqv h1 x = some (true, ds) ∧ RS ⟨ds, fun _ => True⟩ h1
def iTupD (te : TDE) : TDI := fun δ h RS => te δ h fun x h1 => ∃ ds, x = .tup ds ∧ RS ⟨ds, fun _ => True⟩ h1
def iRange1 (te : TDE) : TDI := fun δ h RS => te δ h fun x h1 => ∃ j, x = .int j ∧ -(2 ^ 62) ≤ j ∧ j < 2 ^ 62 ∧ RS ⟨(List.range j.toNat).map fun k => .int (k : Nat), fun _ => True⟩ h1
def iRange2 (ta tb : TDE) : TDI := fun δ h RS => ta δ h fun x h1 => tb δ h1 fun y h2 => ∃ i j, x = .int i ∧ y = .int j ∧ (-(2 ^ 62) ≤ i ∧ i < 2 ^ 62 ∧ -(2 ^ 62) ≤ j ∧ j < 2 ^ 62) ∧ RS ⟨(List.range (j - i).toNat).map fun k => .int (i + (k : Nat)), fun _ => True⟩ h2
section
variable {X : Cx} {tg l a b : Expr} {te ta tb : TDE} {p pos : Pos}
theorem walkD_of {K : Fg} {I : List Addr} {H : Hp} {J : It} {S : Src} {n : Nat} {G : Hp → Prop} {Y : Nat → Hp → V → Hp → Prop} (w : Walk J n G Y) (hn : n = S.items.length) (hG : ∀ I2 H2 h2, Stp I H I2 H2 → HR K I2 h2 H2 → S.G h2 → G H2)
    (hY : ∀ i I2 H2 h2 d x H3, Stp I H I2 H2 → HR K I2 h2 H2 → S.G h2 → S.items[i]? = some d → Y i H2 x H3 → Stp I2 H2 I2 H3 ∧ HR K I2 h2 H3 ∧ RD K H3 I2 d x) : WalkD K I H J S := by
  subst hn
  refine ⟨fun i I2 H2 h2 s r g l => w.goes i H2 l (hG I2 H2 h2 s r g), fun I2 H2 h2 s r g => w.stops H2 (hG I2 H2 h2 s r g), fun i I2 H2 h2 d x H3 s r g e y => ?_⟩
  exact hY i I2 H2 h2 d x H3 s r g e (w.yields i H2 x H3 (List.getElem?_eq_some_iff.mp e).1 (hG I2 H2 h2 s r g) y)
theorem i_seq (hl : DE X l te) : DI X tg l (iSeq te) := by
  refine PI.imp (pi_list hl) fun σ H R ⟨I, δ, h, RS, sr, hr, q, g⟩ => ?_
  refine ⟨I, δ, h, _, sr, hr, q, fun d h1 I1 H1 v hq s1 hr1 rd => ?_⟩
  split at hq
  · obtain ⟨ds, e, q1⟩ := hq
    obtain ⟨a, rfl, q2⟩ := rd.refv
    obtain ⟨xs, q3, r3⟩ := hr1.ob _ a _ q2 e
    refine ⟨a, rfl, ⟨xs, SqL.of q3⟩, g _ h1 I1 H1 _ q1 s1 hr1 ?_⟩
    refine ⟨fun i I2 H2 h2 s r z l => ?_, fun I2 H2 h2 s r z => ?_, fun i I2 H2 h2 d x H3 s r z e3 y => ?_⟩
    · obtain ⟨ys, q4, r4⟩ := r.ob _ a _ (s.at q2) z
      obtain ⟨w, e5, _⟩ := r4.get (List.getElem?_eq_getElem l)
      exact ⟨ys, w, SqL.of q4, e5⟩
    · obtain ⟨ys, q4, r4⟩ := r.ob _ a _ (s.at q2) z
      exact ⟨ys, SqL.of q4, by rw [← r4.length]; exact Nat.le_refl _⟩
    · obtain ⟨ys, q4, r4⟩ := r.ob _ a _ (s.at q2) z
      obtain ⟨rfl, y2⟩ := y
      obtain ⟨w, e5, r5⟩ := r4.get e3
      have e6 := y2 ys (SqL.of q4)
      rw [e5] at e6
      cases e6
      exact ⟨Stp.refl, r, r5⟩
  · obtain ⟨ds, e, q1⟩ := hq
    have hd : ∃ p xs, v = .ref p ∧ (∀ I2 H2, Stp I1 H1 I2 H2 → SqL X.K H2 p xs) ∧ RDs X.K H1 I1 ds xs := by
      cases d with
      | lst es =>
        cases e
        cases rd with
        | lst q n r => exact ⟨_, _, rfl, fun I2 H2 s => SqL.of (s.keep _ _ q n), r⟩
      | scr es =>
        cases e
        cases rd with
        | scr q r => exact ⟨_, _, rfl, fun I2 H2 s => (q.step s).sq, r⟩
      | tup es => cases e
      | ref n =>
        rename_i hh
        exact absurd rfl (hh n)
      | _ => cases e
    obtain ⟨p, xs, rfl, hs, rs⟩ := hd
    refine ⟨p, rfl, ⟨xs, hs I1 H1 Stp.refl⟩, g _ h1 I1 H1 _ q1 s1 hr1 ?_⟩
    refine walkD_of walk_list rs.length.symm (fun I2 H2 h2 s r z => hs I2 H2 s) fun i I2 H2 h2 d x H3 s r z e3 y => ?_
    obtain ⟨rfl, y2⟩ := y
    obtain ⟨w, e5, r5⟩ := rs.get e3
    rw [e5] at y2
    cases y2
    exact ⟨Stp.refl, r, r5.step s⟩
theorem i_tup (hl : DE X l te) : DI X tg l (iTupD te) := by
  refine PI.imp (pi_tup hl) fun σ H R ⟨I, δ, h, RS, sr, hr, q, g⟩ => ?_
  refine ⟨I, δ, h, _, sr, hr, q, fun d h1 I1 H1 v ⟨ds, e, q1⟩ s1 hr1 rd => ?_⟩
  subst e
  cases rd with
  | tup q2 rs =>
    refine ⟨_, rfl, ⟨_, q2.sq⟩, g _ h1 I1 H1 _ q1 s1 hr1 ?_⟩
    refine walkD_of walk_tup rs.length.symm (fun I2 H2 h2 s r z => (q2.step s).sq) fun i I2 H2 h2 d x H3 s r z e3 y => ?_
    obtain ⟨rfl, y2⟩ := y
    obtain ⟨w, e5, r5⟩ := rs.get e3
    rw [e5] at y2
    cases y2
    exact ⟨Stp.refl, r, r5.step s⟩
theorem range_at {n i : Nat} {f : Nat → D} {d : D} (e : ((List.range n).map f)[i]? = some d) : d = f i := by
  rw [List.getElem?_map] at e
  cases h : (List.range n)[i]? with
  | none =>
    rw [h] at e
    cases e
  | some k =>
    rw [h] at e
    have hk := List.getElem?_eq_some_iff.mp h
    obtain ⟨hl, hk⟩ := hk
    rw [List.getElem_range] at hk
    subst hk
    cases e
    rfl
theorem i_range1 (hg : Gl X "range") (hm : X.mg "range" = none) (ha : DE X a ta) (hs : starEach [a] X.env = (false, eval a X.env) :: starEach [] X.env := by rfl) (hs1 : starEach [a] X.env = [(false, eval a X.env)] := by rfl) : DI X tg (.Call (.Name "range" p) [a] [] pos) (iRange1 ta) := by
  refine PI.imp (pi_range1 hg hm (da_cons ha da_nil hs) hs1) fun σ H R ⟨I, δ, h, RS, sr, hr, q, g⟩ => ?_
  refine ⟨I, δ, h, fun ds h1 => match ds with
    | [x] => ∃ j, x = .int j ∧ -(2 ^ 62) ≤ j ∧ j < 2 ^ 62 ∧ RS ⟨(List.range j.toNat).map fun k => .int (k : Nat), fun _ => True⟩ h1
    | _ => False, sr, hr, q, fun ds h1 I1 H1 vs hq s1 hr1 rd => ?_⟩
  dsimp only at hq
  split at hq
  · obtain ⟨j, rfl, b1, b2, q1⟩ := hq
    cases rd with
    | cons r1 rd =>
    cases rd
    cases r1
    refine ⟨j, rfl, b1, b2, g _ h1 I1 H1 _ q1 s1 hr1 ?_⟩
    refine walkD_of walk_range (by simp) (fun _ _ _ _ _ _ => trivial) fun i I2 H2 h2 d x H3 s r z e3 y => ?_
    obtain ⟨rfl, rfl⟩ := y
    rw [range_at e3]
    refine ⟨Stp.refl, r, ?_⟩
    show RD X.K H3 I2 (D.int ↑i) (V.int (0 + ↑i))
    rw [Int.zero_add]
    exact .int _
  · exact hq.elim
theorem i_range2 (hg : Gl X "range") (hm : X.mg "range" = none) (ha : DE X a ta) (hb : DE X b tb) (hs : starEach [a, b] X.env = (false, eval a X.env) :: starEach [b] X.env := by rfl) (hs2 : starEach [b] X.env = (false, eval b X.env) :: starEach [] X.env := by rfl)
    (hs3 : starEach [a, b] X.env = [(false, eval a X.env), (false, eval b X.env)] := by rfl) (hs4 : starEach [b] X.env = [(false, eval b X.env)] := by rfl) : DI X tg (.Call (.Name "range" p) [a, b] [] pos) (iRange2 ta tb) := by
  refine PI.imp (pi_range2 hg hm (da_cons ha (da_cons hb da_nil hs2) hs) hs3 hs4) fun σ H R ⟨I, δ, h, RS, sr, hr, q, g⟩ => ?_
  refine ⟨I, δ, h, fun ds h1 => match ds with
    | [x, y] => ∃ i j, x = .int i ∧ y = .int j ∧ (-(2 ^ 62) ≤ i ∧ i < 2 ^ 62 ∧ -(2 ^ 62) ≤ j ∧ j < 2 ^ 62) ∧ RS ⟨(List.range (j - i).toNat).map fun k => .int (i + (k : Nat)), fun _ => True⟩ h1
    | _ => False, sr, hr, q, fun ds h1 I1 H1 vs hq s1 hr1 rd => ?_⟩
  dsimp only at hq
  split at hq
  · obtain ⟨lo, j, rfl, rfl, b1, q1⟩ := hq
    cases rd with
    | cons r1 rd =>
    cases rd with
    | cons r2 rd =>
    cases rd
    cases r1
    cases r2
    refine ⟨lo, j, rfl, b1, g _ h1 I1 H1 _ q1 s1 hr1 ?_⟩
    refine walkD_of walk_range (by simp) (fun _ _ _ _ _ _ => trivial) fun i I2 H2 h2 d x H3 s r z e3 y => ?_
    obtain ⟨rfl, rfl⟩ := y
    rw [range_at e3]
    exact ⟨Stp.refl, r, .int _⟩
  · exact hq.elim
/-- for: Pv by the turn, the slots and our objects; behind a turn what is new may be forgotten -/
def dFor (si : TDI) (g : TDG) (tb : TDS) : TDS := fun E δ h => si δ h fun S h1 => ∃ Pv : Nat → DS → OS → Prop, Pv 0 δ h1 ∧ (∀ i δ h, i ≤ S.items.length → Pv i δ h → S.G h) ∧
  (∀ (i : Nat) d δ h, S.items[i]? = some d → Pv i δ h → g d δ h fun δ2 h2 =>
    tb { E with nx := fun δ' h' => ∃ δ3 h3, Drp h1.length δ' h' δ3 h3 ∧ Pv (i + 1) δ3 h3, ct := fun δ' h' => ∃ δ3 h3, Drp h1.length δ' h' δ3 h3 ∧ Pv (i + 1) δ3 h3, bk := E.nx } δ2 h2) ∧
  ∀ δ h, Pv S.items.length δ h → E.nx δ h
theorem s_for {iter : Expr} {body : List Stmt} {si : TDI} {g : TDG} {tb : TDS} (hp : PassesOwn (model X.prog X.w) X.A X.env X.xe) (hc : X.calm = true) (hi : DI X tg iter si) (hg : DG X tg g) (hb : DSs X body tb)
    (hs : ∀ x, foldedSetIterable iter X.env x = pure x := by intro _; rfl) : DSt X (.For tg iter body [] pos) (dFor si g tb) := by
  refine PS.imp (ps_for hp hc hi hg hb hs) fun E σ H ⟨I, δ, h, ED, sr, hr, q, go⟩ => ?_
  refine ⟨I, δ, h, _, sr, hr, q, fun S h1 I1 H1 J ⟨Pv, p0, pG, ps, pd⟩ s1 hr1 w => ?_⟩
  have go1 := go.after s1
  refine ⟨fun i m σ2 H2 => m + i = S.items.length ∧ ∃ I2 δ2 h2, SR X.K H2 I2 δ2 σ2 ∧ HR X.K I2 h2 H2 ∧ Stp I1 H1 I2 H2 ∧ Pv i δ2 h2, ⟨S.items.length, Nat.add_zero _, I1, δ, h1, sr.step s1, hr1, Stp.refl, p0⟩, ?_⟩
  rintro i m σ2 H2 ⟨hm, I2, δ2, h2, sr2, hr2, s2, p2⟩
  have gd := pG i δ2 h2 (by omega) p2
  by_cases hi : i = S.items.length
  · left
    subst hi
    exact ⟨w.stops I2 H2 h2 s2 hr2 gd, go1.nx δ2 h2 I2 H2 σ2 (pd δ2 h2 p2) s2 hr2 sr2⟩
  · right
    have hl : i < S.items.length := by omega
    have e : S.items[i]? = some S.items[i] := List.getElem?_eq_getElem hl
    refine ⟨w.goes i I2 H2 h2 s2 hr2 gd hl, fun σ' H' => ∃ I3 δ3 h3, SR X.K H' I3 δ3 σ' ∧ HR X.K I3 h3 H' ∧ Stp I1 H1 I3 H' ∧ Pv (i + 1) δ3 h3, ?_, ?_⟩
    · rintro σ' H' ⟨I3, δ3, h3, a, b, c, d⟩
      exact ⟨m - 1, by omega, by omega, I3, δ3, h3, a, b, c, d⟩
    · intro x H3 y
      obtain ⟨s3, hr3, rd⟩ := w.yields i I2 H2 h2 _ x H3 s2 hr2 gd e y
      have s13 := s2.trans s3
      refine ⟨I2, S.items[i], δ2, h2, _, sr2.step s3, hr3, rd, ps i _ δ2 h2 e p2, fun δ4 h4 I4 H4 σ4 q4 s4 hr4 sr4 => ?_⟩
      have s14 := s13.trans s4
      have back : GoN X.K I4 H4 (fun δ' h' => ∃ δ3 h3, Drp h1.length δ' h' δ3 h3 ∧ Pv (i + 1) δ3 h3) (fun σ' H' => ∃ I3 δ3 h3, SR X.K H' I3 δ3 σ' ∧ HR X.K I3 h3 H' ∧ Stp I1 H1 I3 H' ∧ Pv (i + 1) δ3 h3) := by
        rintro δ5 h5 I5 H5 σ5 ⟨δ6, h6, dr, p6⟩ s5 hr5 sr5
        obtain ⟨I6, a, b, c⟩ := dr.use hr1.len sr5 hr5 (s14.trans s5)
        exact ⟨I6, δ6, h6, a, b, c, p6⟩
      exact ⟨I4, δ4, h4, _, sr4, hr4, q4, back, (go1.after s14).rt, (go1.after s14).nx, back⟩
/-- while: Pv with a number that falls -/
def dWhile (c : TDT) (tb : TDS) : TDS := fun E δ h => ∃ Pv : Nat → DS → OS → Prop, (∃ m, Pv m δ h) ∧ ∀ m δ2 h2, Pv m δ2 h2 → c δ2 h2 fun b h3 => if b = true then
    tb { E with nx := fun δ' h' => ∃ δ3 h3 m', Drp h.length δ' h' δ3 h3 ∧ m' < m ∧ Pv m' δ3 h3, ct := fun δ' h' => ∃ δ3 h3 m', Drp h.length δ' h' δ3 h3 ∧ m' < m ∧ Pv m' δ3 h3, bk := E.nx } δ2 h3 else E.nx δ2 h3
theorem s_while {c : Expr} {body : List Stmt} {tc : TDT} {tb : TDS} (hp : PassesOwn (model X.prog X.w) X.A X.env X.xe) (hc : DT X c tc) (hb : DSs X body tb) : DSt X (.While c body [] pos) (dWhile tc tb) := by
  refine PS.imp (ps_while hp hc hb) fun E σ H ⟨I, δ, h, ED, sr, hr, ⟨Pv, ⟨m0, p0⟩, ps⟩, go⟩ => ?_
  refine ⟨fun m σ2 H2 => ∃ I2 δ2 h2, SR X.K H2 I2 δ2 σ2 ∧ HR X.K I2 h2 H2 ∧ Stp I H I2 H2 ∧ Pv m δ2 h2, ⟨m0, I, δ, h, sr, hr, Stp.refl, p0⟩, ?_⟩
  rintro m σ2 H2 ⟨I2, δ2, h2, sr2, hr2, s2, p2⟩
  have q := ps m δ2 h2 p2
  refine ⟨I2, δ2, h2, _, sr2, hr2, q, fun b h3 I3 H3 q3 s3 hr3 => ?_⟩
  have s13 := s2.trans s3
  cases b with
  | false => exact (go.after s13).nx δ2 h3 I3 H3 σ2 q3 Stp.refl hr3 (sr2.step s3)
  | true =>
    refine ⟨fun σ' H' => ∃ m', m' < m ∧ ∃ I3 δ3 h3, SR X.K H' I3 δ3 σ' ∧ HR X.K I3 h3 H' ∧ Stp I H I3 H' ∧ Pv m' δ3 h3, fun σ' H' z => z, ?_⟩
    have back : GoN X.K I3 H3 (fun δ' h' => ∃ δ3 h3 m', Drp h.length δ' h' δ3 h3 ∧ m' < m ∧ Pv m' δ3 h3) (fun σ' H' => ∃ m', m' < m ∧ ∃ I3 δ3 h3, SR X.K H' I3 δ3 σ' ∧ HR X.K I3 h3 H' ∧ Stp I H I3 H' ∧ Pv m' δ3 h3) := by
      rintro δ5 h5 I5 H5 σ5 ⟨δ6, h6, m', dr, hm, p6⟩ s5 hr5 sr5
      obtain ⟨I6, a, b, c⟩ := dr.use hr.len sr5 hr5 (s13.trans s5)
      exact ⟨m', hm, I6, δ6, h6, a, b, c, p6⟩
    exact ⟨I3, δ2, h3, _, sr2.step s3, hr3, q3, back, (go.after s13).rt, (go.after s13).nx, back⟩
end
end FL
/-! Defs and their calls over data; nothing is being written out when they are called (guards). -/
namespace FL
open PySem PySem.Spec PyProof.Rows L2

structure FnG (P : Program) (w : World) (K : Fg) (mg : Str → Option Value) (base : Heap) (CX : CXT) (k : Nat) (f : Addr) (fd : FuncData) (ps : List Str) (sp : Sp) : Prop where
  len : ∀ vs H Q E, sp vs H Q E → vs.length = ps.length
  run : ∀ (A : Around) (outer : List Env) (s : Shared) (H : Hp) (args : Args) (us : List Value) (vs : List V) (Q : VK) (E : XK),
    Room k A → A.guards = some [] → Env0 P w K mg base A outer s H → BindsTo s fd args (ps.zip us) → Vals vs us → sp vs H Q E →
    codeAny (model P w) A (.call (.ref f) args) (CR CX outer P w H s Q E) s
theorem FnG.mono {P : Program} {w : World} {K : Fg} {mg : Str → Option Value} {base : Heap} {CX : CXT} {j k : Nat} {f : Addr} {fd : FuncData} {ps : List Str} {sp : Sp} (F : FnG P w K mg base CX j f fd ps sp) (h : j ≤ k) : FnG P w K mg base CX k f fd ps sp :=
  ⟨F.len, fun A outer s H args us vs Q E hr => F.run A outer s H args us vs Q E (hr.mono h)⟩
theorem FnG.imp {P : Program} {w : World} {K : Fg} {mg : Str → Option Value} {base : Heap} {CX : CXT} {k : Nat} {f : Addr} {fd : FuncData} {ps : List Str} {sp sp' : Sp} (F : FnG P w K mg base CX k f fd ps sp) (h : ∀ vs H Q E, sp' vs H Q E → sp vs H Q E) : FnG P w K mg base CX k f fd ps sp' :=
  ⟨fun vs H Q E q => F.len vs H Q E (h vs H Q E q), fun A outer s H args us vs Q E hr hg e b r q => F.run A outer s H args us vs Q E hr hg e b r (h vs H Q E q)⟩
/-- a def by its body -/
theorem fnG_of {CX : CXT} {P : Program} {w : World} {K : Fg} {mg : Str → Option Value} {base : Heap} {k : Nat} {f : Addr} {name qual : Str} {params : Arguments} {body : List Stmt} {scope : Scope} {dV kV doc pm cdv ct oc : Value} {an od : Option Addr}
    {osl : Array (Option Value)} {N ps : List Str} {sp : Sp} (lk : K.lookup f = some ⟨oc, od, .func (PySem.W.fnOf name qual params body scope dV kV doc pm an cdv ct), osl⟩) (hcd : PySem.W.codeIn K cdv qual = true)
    (S : FnScope N ps scope) (len : ∀ vs H Q E, sp vs H Q E → vs.length = ps.length)
    (hbody : ∀ (A : Around) (outer : List Env) (s : Shared) (H : Hp) (vs : List V) (Q : VK) (E : XK), Room k (A.deeper (envOfC qual scope s.heap.objs.size f cdv)) → A.guards = some [] → sp vs H Q E →
      ∃ t, PSs (cxOf CX P w K mg base N qual scope f cdv A outer s H E) body t ∧ t { nx := fun _ H' => Q .non H', rt := Q } (L2.start N vs) H) :
    FnG P w K mg base CX (k + 1) f (PySem.W.fnOf name qual params body scope dV kV doc pm an cdv ct) ps sp := by
  constructor
  · exact len
  · intro A outer s H args us vs Q E room gd e0 hb r hsp
    have inK : K.In s.heap := e0.mod.kin.keeps (fun b o e => (e0.bs b o e).1)
    have lim : s.heap.NoLimit := e0.mod.nolimit.keeps (fun b o e => (e0.bs b o e).1)
    have kinds : ∀ y ∈ ps.zip us, scope.names.lookup y.1 = some .local ∨
        (scope.names.lookup y.1 = some .cell ∧ ((cellsFrom (s.heap.objs.size + 1) scope.names []).lookup y.1).isSome = true) := by
      rintro ⟨n, v⟩ hy
      rcases S.par n (List.of_mem_zip hy).1 with q | q
      · exact Or.inl q
      · exact Or.inr ⟨q, PySem.W.cellsFrom_some _ _ _ (Or.inl q)⟩
    refine codeAny_call_function room.depth (inK _ _ lk) rfl S.co S.gen rfl (PySem.W.codeRec_of inK hcd) (hb _ _ _ _ ?_)
    refine wpAny_newFunctionEnv_cells S.kind kinds ?_
    intro env he s1 x
    subst he
    refine ⟨lim.keeps x.toInCall.keep, codeAny_func ?_⟩
    obtain ⟨t, ht, hq⟩ := hbody A outer s H vs Q E (room.deeper _) gd hsp
    have J : Inv (cxOf CX P w K mg base N qual scope f cdv A outer s H E) [] (L2.start N vs) H s1 := inv_start S room.hd e0 (len _ _ _ _ hsp) r x
    refine wpAny_mono (ht.run [] s1 (L2.start N vs) H _ J hq) ?_ (fun e s' hs => hs)
    intro fl s' hs
    cases fl with
    | ret u =>
      obtain ⟨v, σ', H', J', rv, q⟩ := hs
      exact ⟨v, H', J'.os, J'.bare, J'.base, J'.hok, rv, q⟩
    | next =>
      obtain ⟨σ', H', J', q⟩ := hs
      exact ⟨V.non, H', J'.os, J'.bare, J'.base, J'.hok, rfl, q⟩
    | brk =>
      obtain ⟨_, _, _, q⟩ := hs
      exact q.elim
    | cont =>
      obtain ⟨_, _, _, q⟩ := hs
      exact q.elim
/-- positional arguments, defaults behind -/
theorem kbn_of {K : Fg} {fd : FuncData} {ps : List Str} {ds : List Value} {dvs : List V} {n : Nat} (b : Binds K fd ps ds) (r : Vals dvs ds) (hn : n + dvs.length = ps.length) : KBn K fd ps n [] (fun us _ => us ++ ds) (fun vs _ => vs ++ dvs) :=
  ⟨fun s us ws X l1 _ => by
    have := b s us X (by rw [List.length_append, l1, ← r.length]; exact hn)
    simpa using this, fun r1 _ => r1.append r⟩
section
variable {X : Cx} {CX : CXT} {k n : Nat} {f C : Addr} {fd : FuncData} {ps ks : List Str} {sp : Sp} {E : XK} {g : List Value → List Value → List Value} {gV : List V → List V → List V}
  {pins : List (Addr × Obj)} {σ : L2.St} {H : Hp} {s : Shared} {Q : VK} {us ws : List Value} {vs zs : List V}
theorem run_g (F : FnG X.prog X.w X.K X.mg X.base CX k f fd ps sp) (hr : Room k X.A) (gd : X.A.guards = some []) (hb : KBn X.K fd ps n ks g gV) (hx : Passes CX X E)
    (J : Inv X pins σ H s) (r : Vals vs us) (rz : Vals zs ws) (l1 : vs.length = n) (l2 : zs.length = ks.length) (h : sp (gV vs zs) H Q E) :
    wpAny (model X.prog X.w) X.A (call (.ref f) us (ks.zip ws)) (EP X pins σ Q) X.xe s := by
  have b := hb.to s us ws J.kIn (r.length.symm.trans l1) (rz.length.symm.trans l2)
  have run := F.run X.A X.stack s H ⟨us, ks.zip ws⟩ (g us ws) (gV vs zs) Q E hr gd J.env0 b (hb.rel r rz) h
  refine wpAny_call (codeAny_mono run ?_)
  intro z s' hq
  cases z with
  | error e => exact hx pins σ H s e s' J hq
  | ok fl =>
    cases fl with
    | ret u => exact J.after hq
    | next => exact hq.elim
    | brk => exact hq.elim
    | cont => exact hq.elim
theorem guards_make {A : Around} {us : List Value} {kw : List (Str × Value)} (gd : A.guards = some []) : (A.under (.builtin "type.__call__" ⟨.ref C :: us, kw⟩)).guards = some [] := by
  have e : Code.guards (.builtin "type.__call__" ⟨.ref C :: us, kw⟩) = [] := by
    unfold Code.guards
    exact if_neg (show ¬ (guardIds.contains "type.__call__" = true) by decide)
  unfold Around.under
  simp only [e, gd]
  rfl
theorem make_g (M : Mk X.K C f) (F : FnG X.prog X.w X.K X.mg X.base CX k f fd ps sp) (hr : Room (k + 1) X.A) (gd : X.A.guards = some []) (hb : KBn X.K fd ps (n + 1) ks g gV) (hx : Passes CX X E)
    (J : Inv X pins σ H s) (r : Vals vs us) (rz : Vals zs ws) (l1 : vs.length = n) (l2 : zs.length = ks.length)
    (h : ∀ x dx, H x = none → H dx = none → dx ≠ x → sp (gV (.ref x :: vs) zs) (upd (upd H dx (.own x)) x (.ins C dx [])) (fun v H2 => v = .non ∧ Q (.ref x) H2) E) :
    wpAny (model X.prog X.w) X.A (call (.ref C) us (ks.zip ws)) (EP X pins σ Q) X.xe s := by
  have J2 := Inv.made (C := C) J
  have r1 : Vals (V.ref (s.heap.objs.size + 1) :: vs) (Value.ref (s.heap.objs.size + 1) :: us) := .cons rfl r
  have q := h (s.heap.objs.size + 1) s.heap.objs.size (J.hok.fresh (Nat.le_succ _)) (J.hok.fresh (Nat.le_refl _)) (Nat.ne_of_lt (Nat.lt_succ_self _))
  have b := hb.to _ (Value.ref (s.heap.objs.size + 1) :: us) ws J2.kIn (by rw [List.length_cons, ← r.length, l1]) (rz.length.symm.trans l2)
  have run := F.run _ X.stack _ _ ⟨Value.ref (s.heap.objs.size + 1) :: us, ks.zip ws⟩ (g (Value.ref (s.heap.objs.size + 1) :: us) ws) _ _ E
    (hr.make C us (ks.zip ws)) (guards_make gd) (J2.env0.make C us (ks.zip ws)) b (hb.rel r1 rz) q
  refine wpAny_call (make_map (f := f) J.kIn M.makes M.init (beq_iff_eq.mp M.fn) (codeAny_mono run ?_))
  intro z s' hq
  cases z with
  | error e => exact hx pins σ _ _ e s' J2 hq
  | ok fl =>
    cases fl with
    | ret u =>
      obtain ⟨v, H', J3, rv, ev, q3⟩ := J2.after hq
      subst ev
      exact ⟨rv, V.ref (s.heap.objs.size + 1), H', J3, rfl, q3⟩
    | next => exact hq.elim
    | brk => exact hq.elim
    | cont => exact hq.elim
end

/-! ### promises over data -/
abbrev DX := Value → Option (List (Str × D)) → OS → Prop
abbrev DSp := List D → OS → DK → DX → Prop
/-- an exception's own dict -/
def RX (K : Fg) (H : Hp) (I : List Addr) : Option (List (Str × D)) → Option Addr → Prop
  | none, d => d = none
  | some qs, d => ∃ a fs, d = some a ∧ H a = some (.xd fs) ∧ a ∉ I ∧ fs.map (·.1) = qs.map (·.1) ∧ RDs K H I (qs.map (·.2)) (fs.map (·.2))
def GoX (K : Fg) (I : List Addr) (H : Hp) (R : DX) (E : XK) : Prop := ∀ c o h' I' H' d, R c o h' → Stp I H I' H' → HR K I' h' H' → RX K H' I' o d → E c d H'
theorem GoX.after {K : Fg} {I I1 : List Addr} {H H1 : Hp} {R : DX} {E : XK} (g : GoX K I H R E) (s : Stp I H I1 H1) : GoX K I1 H1 R E := fun c o h' I' H' d r s2 => g c o h' I' H' d r (s.trans s2)
def upSp (K : Fg) (sp : DSp) : Sp := fun vs H Q E => ∃ I ds h R RE, HR K I h H ∧ RDs K H I ds vs ∧ sp ds h R RE ∧ Go K I H R Q ∧ GoX K I H RE E
abbrev NoX : DX := fun _ _ _ => False
theorem GoX.no {K : Fg} {I : List Addr} {H : Hp} {E : XK} : GoX K I H NoX E := fun _ _ _ _ _ _ r => r.elim
abbrev FnD (P : Program) (w : World) (K : Fg) (mg : Str → Option Value) (base : Heap) (CX : CXT) (k : Nat) (f : Addr) (fd : FuncData) (ps : List Str) (sp : DSp) : Prop := FnG P w K mg base CX k f fd ps (upSp K sp)

/-- the content of an object as a value that nobody changes any more -/
def val : O → D
  | .lst ds => .lst ds
  | .dct qs => .dct (qs.map (·.1)) (qs.map (·.2))
  | .ins C qs => .ins C (qs.map (·.1)) (qs.map (·.2))
/-- a def's end: objects that it made and that nobody holds are forgotten; the one that is handed back may become a value -/
def Ret (R : DK) (m : Nat) (d : D) (h : OS) : Prop := R d h ∨ ∃ h' g, h = h' ++ g ∧ m ≤ h'.length ∧ okOs h'.length h' ∧
  ((okR h'.length d ∧ R d h') ∨ ∃ n o, d = .ref n ∧ h'.length ≤ n ∧ h[n]? = some o ∧ okO h'.length o ∧ R (val o) h')
theorem frozen {K : Fg} {I : List Addr} {H : Hp} {h : OS} {m n : Nat} {o : O} {v : V} (hr : HR K I h H) (r : RD K H I (.ref n) v) (e : h[n]? = some o) (hm : m ≤ n) (ok : okO m o) : RD K H (I.take m) (val o) v := by
  obtain ⟨a, rfl, q⟩ := r.refv
  have nin : a ∉ I.take m := by
    intro z
    obtain ⟨j, hj, ej⟩ := List.getElem_of_mem z
    rw [List.length_take] at hj
    have hj1 : j < I.length := by omega
    have e1 : I[j]? = some a := by
      rw [List.getElem_take] at ej
      rw [List.getElem?_eq_getElem hj1, ej]
    have := (List.getElem?_inj hj1 hr.nd).mp (e1.trans q.symm)
    omega
  have ob := hr.ob n a o q e
  cases o with
  | lst ds =>
    obtain ⟨xs, q2, r2⟩ := ob
    exact .lst q2 nin (RDs.takeI ok r2)
  | dct qs =>
    obtain ⟨kvs, q2, hk, r2⟩ := ob
    exact .dct q2 nin hk (RDs.takeI ok r2)
  | ins C qs =>
    obtain ⟨dx, fs, q2, hk, r2⟩ := ob
    exact .ins q2 nin hk (RDs.takeI ok r2)
theorem Go.ret {K : Fg} {I : List Addr} {H : Hp} {R : DK} {Q : VK} (g : Go K I H R Q) : Go K I H (Ret R I.length) Q := by
  rintro d h1 I1 H1 v (z | ⟨h', g', rfl, hm, ok, z⟩) s1 hr1 rd
  · exact g d h1 I1 H1 v z s1 hr1 rd
  have hr2 := hr1.drop ok
  have s2 : Stp I H (I1.take h'.length) H1 := s1.drop hm
  rcases z with ⟨okd, hR⟩ | ⟨n, o, rfl, hn, e, oko, hR⟩
  · exact g d h' _ H1 v hR s2 hr2 (rd.take okd)
  · exact g _ h' _ H1 v hR s2 hr2 (frozen hr1 rd e hn oko)
mutual
theorem RD.ok {K : Fg} {H : Hp} {I : List Addr} : ∀ {d : D} {v : V}, RD K H I d v → okR I.length d
  | _, _, .non => trivial
  | _, _, .bl b => trivial
  | _, _, .int i => trivial
  | _, _, .str x => trivial
  | _, _, .ty x => trivial
  | _, _, .obj a => trivial
  | _, _, .ref e => (List.getElem?_eq_some_iff.mp e).1
  | _, _, .scr e r => RDs.ok r
  | _, _, .tup e r => RDs.ok r
  | _, _, .lst e q r => RDs.ok r
  | _, _, .dct e q hk r => RDs.ok r
  | _, _, .ins e q hk r => RDs.ok r
theorem RDs.ok {K : Fg} {H : Hp} {I : List Addr} : ∀ {ds : List D} {vs : List V}, RDs K H I ds vs → okRs I.length ds
  | _, _, .nil => trivial
  | _, _, .cons a r => ⟨RD.ok a, RDs.ok r⟩
end
/-- our objects hold no number beyond them -/
theorem HR.ok {K : Fg} {H : Hp} {I : List Addr} {h : OS} (r : HR K I h H) : okOs h.length h := okOs_iff.mpr fun o ho => by
  obtain ⟨i, hi, e⟩ := List.getElem_of_mem ho
  have hl : i < I.length := by rw [r.len]; exact hi
  have := r.ob i I[i] o (List.getElem?_eq_getElem hl) (by rw [List.getElem?_eq_getElem hi, e])
  rw [← r.len]
  cases o with
  | lst ds =>
    obtain ⟨xs, _, q⟩ := this
    exact q.ok
  | dct qs =>
    obtain ⟨xs, _, _, q⟩ := this
    exact q.ok
  | ins C qs =>
    obtain ⟨dx, xs, _, _, q⟩ := this
    exact q.ok
def startD (N : List Str) (ds : List D) : DS := ds.map some ++ List.replicate (N.length - ds.length) none
theorem sr_start {K : Fg} {H : Hp} {I : List Addr} {N : List Str} {ds : List D} {vs : List V} (r : RDs K H I ds vs) : SR K H I (startD N ds) (L2.start N vs) := by
  unfold startD L2.start
  refine ⟨by simp [r.length], fun i d e => ?_⟩
  by_cases hl : i < ds.length
  · rw [List.getElem?_append_left (by simpa using hl)] at e
    rw [List.getElem?_append_left (by simpa [← r.length] using hl)]
    rw [List.getElem?_map] at e ⊢
    cases h : ds[i]? with
    | none =>
      rw [h] at e
      cases e
    | some d' =>
      rw [h] at e
      cases e
      obtain ⟨v, e2, a⟩ := r.get h
      exact ⟨v, by rw [e2]; rfl, a⟩
  · rw [List.getElem?_append_right (by simpa using hl)] at e
    have := List.mem_of_getElem? e
    rw [List.mem_replicate] at this
    cases this.2
section
variable {P : Program} {w : World} {K : Fg} {mg : Str → Option Value} {base : Heap}
/-- a def as it stands, with or without defaults -/
structure FunA (K : Fg) (x qual : Str) (st : Stmt) (f : Addr) (fd : FuncData) : Prop where
  ex : ∃ (oc : Value) (od : Option Addr) (dV kV doc pm : Value) (an : Option Addr) (cdv ct : Value) (osl : Array (Option Value)),
    fd = PySem.W.fnOf x qual (defArgs st) (defBody st) (defScope st) dV kV doc pm an cdv ct ∧ K.lookup f = some ⟨oc, od, .func fd, osl⟩ ∧ PySem.W.codeIn K cdv qual = true
  kp : PySem.W.keepIn K (.ref f) = true
theorem funA {x qual : Str} {st : Stmt} {f : Addr} {fd : FuncData} (F : Fun K x qual st f fd) : FunA K x qual st f fd := by
  obtain ⟨oc, od, kV, doc, pm, an, cdv, ct, osl, a, b, c⟩ := F.ex
  exact ⟨⟨oc, od, .none, kV, doc, pm, an, cdv, ct, osl, a, b, c⟩, F.kp⟩
theorem funA_mk {x qual : Str} {st : Stmt} {f : Addr} {oc : Value} {od an : Option Addr} {osl : Array (Option Value)} {dV kV doc pm cdv ct : Value} (l : K.lookup f = some ⟨oc, od, .func (PySem.W.fnOf x qual (defArgs st) (defBody st) (defScope st) dV kV doc pm an cdv ct), osl⟩)
    (c : PySem.W.codeIn K cdv qual = true) (k : PySem.W.keepIn K (.ref f) = true) : FunA K x qual st f (PySem.W.fnOf x qual (defArgs st) (defBody st) (defScope st) dV kV doc pm an cdv ct) := ⟨⟨_, _, _, _, _, _, _, _, _, _, rfl, l, c⟩, k⟩
/-- THE RULE: a def that lets no exception out -/
theorem fnD {x qual : Str} {st : Stmt} {f : Addr} {fd : FuncData} {N ps : List Str} {k : Nat} {sp : DSp} (F : FunA K x qual st f fd) (S : FnScope N ps (defScope st)) (len : ∀ ds h R E, sp ds h R E → ds.length = ps.length)
    (hbody : ∀ (cdv : Value) (A : Around) (outer : List Env) (s : Shared) (H : Hp) (E : XK), Room k (A.deeper (envOfC qual (defScope st) s.heap.objs.size f cdv)) → A.guards = some [] →
      ∃ t, DSs (cxOf CX0 P w K mg base N qual (defScope st) f cdv A outer s H E).nox (defBody st) t ∧ ∀ ds h R RE, okOs h.length h → okRs h.length ds → sp ds h R RE → t { nx := fun _ h' => Ret R h.length .non h', rt := Ret R h.length } (startD N ds) h) :
    FnD P w K mg base CX0 (k + 1) f fd ps sp := by
  obtain ⟨oc, od, dV, kV, doc, pm, an, cdv, ct, osl, rfl, lk, hcd⟩ := F.ex
  refine fnG_of lk hcd S ?_ ?_
  · rintro vs H Q E ⟨I, ds, h, R, RE, hr, rd, q, g, gx⟩
    rw [← rd.length]
    exact len ds h R RE q
  · rintro A outer s H vs Q E room gd ⟨I, ds, h, R, RE, hr, rd, q, g, gx⟩
    obtain ⟨t, ht, hq⟩ := hbody cdv A outer s H E room gd
    refine ⟨_, ht.nox, I, startD N ds, h, _, sr_start rd, hr, hq ds h R RE hr.ok (by rw [← hr.len]; exact rd.ok) q, ?_⟩
    have gr : Go K I H (Ret R h.length) Q := by
      rw [← hr.len]
      exact g.ret
    exact ⟨fun δ' h' I' H' σ' r s1 hr1 sr1 => gr .non h' I' H' .non r s1 hr1 .non, gr, fun δ' h' I' H' σ' r => r.elim, fun δ' h' I' H' σ' r => r.elim⟩
end

/-! ### calls -/
structure KBd (gV : List V → List V → List V) (gD : List D → List D → List D) : Prop where
  rel : ∀ {K : Fg} {H : Hp} {I : List Addr} {ds es : List D} {vs zs : List V}, RDs K H I ds vs → RDs K H I es zs → RDs K H I (gD ds es) (gV vs zs)
theorem kbd_plain {dvs : List V} {dds : List D} (h : ∀ (K : Fg) (H : Hp) (I : List Addr), RDs K H I dds dvs) : KBd (fun vs _ => vs ++ dvs) (fun ds _ => ds ++ dds) := ⟨fun r _ => r.append (h _ _ _)⟩
theorem kbd_nil : KBd (fun vs _ => vs ++ []) (fun ds _ => ds) := ⟨fun r _ => by
  rw [List.append_nil]
  exact r⟩
def dCall (n m : Nat) (sp : DSp) (gD : List D → List D → List D) (RE : DX) (t tk : TDA) : TDE := fun δ h R => t δ h fun ds h1 => tk δ h1 fun es h2 => ds.length = n ∧ es.length = m ∧ sp (gD ds es) h2 R RE
def upK (K : Fg) (t : TDA) : TA := upA K t
abbrev DKw (X : Cx) (kws : List Keyword) (t : TDA) : Prop := PK X kws (upA X.K t)
theorem PK.imp {X : Cx} {es : List Keyword} {t t' : TA} (h : PK X es t) (i : ∀ σ H Q, t' σ H Q → t σ H Q) : PK X es t' := ⟨fun pos pins s σ H Q I q => h.run pos pins s σ H Q I (i σ H Q q)⟩
section
variable {X : Cx} {e : Expr} {kws : List Keyword} {te : TDE} {t tk : TDA} {nm : Option Str} {kpos : Pos}
theorem k_nil : DKw X [] dNil := PK.imp pk_nil fun σ H Q ⟨I, δ, h, R, sr, hr, r, g⟩ => g [] h I H [] r Stp.refl hr .nil
theorem k_cons (ha : DE X e te) (hr : DKw X kws t) : DKw X (⟨nm, e, kpos⟩ :: kws) (dCons te t) := by
  refine PK.imp (pk_cons ha hr) fun σ H Q ⟨I, δ, h, R, sr, hr, r, g⟩ => ?_
  refine ⟨I, δ, h, _, sr, hr, r, fun dx h1 I1 H1 x hR s1 hr1 rx => ?_⟩
  refine ⟨I1, δ, h1, _, sr.step s1, hr1, hR, fun ds h2 I2 H2 xs hf s2 hr2 rs => ?_⟩
  exact g _ h2 I2 H2 _ hf (s1.trans s2) hr2 (.cons (rx.step s2) rs)
end
section
variable {X : Cx} {CX : CXT} {k n : Nat} {f C : Addr} {fd : FuncData} {ps ks : List Str} {sp : DSp} {RE : DX} {E : XK} {x m : Str} {p pos apos : Pos} {e o : Expr} {es : List Expr} {kws : List Keyword} {t tk : TDA} {ta : TDE}
  {g : List Value → List Value → List Value} {gV : List V → List V → List V} {gD : List D → List D → List D}
/-- the reading of a call, as the callee's promise at the values -/
theorem call_sp {σ : L2.St} {H : Hp} {Q : VK} {m' : Nat} (hg : KBd gV gD) (q : up X.K (dCall n m' sp gD RE t tk) σ H Q) (hE : ∀ I H, GoX X.K I H RE E) :
    upA X.K t σ H fun vs H1 => upA X.K tk σ H1 fun zs H2 => vs.length = n ∧ zs.length = m' ∧ upSp X.K sp (gV vs zs) H2 Q E := by
  obtain ⟨I, δ, h, R, sr, hr, ht, go⟩ := q
  refine ⟨I, δ, h, _, sr, hr, ht, fun ds h1 I1 H1 vs hR s1 hr1 rs => ?_⟩
  refine ⟨I1, δ, h1, _, sr.step s1, hr1, hR, fun es h2 I2 H2 zs ⟨l1, l2, hs⟩ s2 hr2 rz => ?_⟩
  exact ⟨by rw [← rs.length]; exact l1, by rw [← rz.length]; exact l2, I2, gD ds es, h2, R, RE, hr2, hg.rel (rs.step s2) rz, hs, go.after (s1.trans s2), hE I2 H2⟩
/-- f(e, ..) -/
theorem d_call (F : FnD X.prog X.w X.K X.mg X.base CX k f fd ps sp) (hr : Room k X.A) (gd : X.A.guards = some []) (hgl : Gl X x) (hm : X.mg x = some (.ref f)) (hk : PySem.W.keepIn X.K (.ref f) = true) (hb : KBn X.K fd ps n [] g gV) (hg : KBd gV gD) (hx : Passes CX X E) (hE : ∀ I H, GoX X.K I H RE E)
    (ha : DA X (e :: es) t) (hdb : (x == ("__debug__" : Str)) = false := by decide) (he : starEach (e :: es) X.env = (false, eval e X.env) :: starEach es X.env := by rfl) (hpl : (backTo pos (starEach es X.env)).any (·.1) = false := by rfl) :
    DE X (.Call (.Name x p) (e :: es) [] pos) (dCall n 0 sp gD RE t dNil) := by
  refine ⟨fun pins s σ H Q J h => ?_⟩
  have q := call_sp hg h hE
  refine wpAny_Call_Name_kw (ld_glob J hgl hm ?_ hdb)
  refine PySem.W.callWith_K (h₀ := X.base) J.ok.mod.kin hk (thn (ha.run pos pins s σ H _ J q) ?_) he hpl
  rintro us s1 ⟨vs, H1, J1, r, q1⟩
  refine ⟨J1.kIn, ?_⟩
  obtain ⟨I, δ, h0, R, sr, hr0, ht, go⟩ := q1
  obtain ⟨l1, l2, hs⟩ := go [] h0 I H1 [] ht Stp.refl hr0 .nil
  exact run_g (ks := []) (ws := []) (zs := []) F hr gd hb hx J1 r .nil l1 rfl hs
/-- f(e, .., k = v, ..) -/
theorem d_callK (F : FnD X.prog X.w X.K X.mg X.base CX k f fd ps sp) (hr : Room k X.A) (gd : X.A.guards = some []) (hgl : Gl X x) (hm : X.mg x = some (.ref f)) (hk : PySem.W.keepIn X.K (.ref f) = true) (hb : KBn X.K fd ps n ks g gV) (hg : KBd gV gD) (hx : Passes CX X E) (hE : ∀ I H, GoX X.K I H RE E)
    (ha : DA X (e :: es) t) (hkw : DKw X kws tk) (hall : (backToKw pos (keywordEach kws X.env)).all (·.1.isSome) = true := by rfl) (hks : (backToKw pos (keywordEach kws X.env)).filterMap (·.1) = ks := by rfl)
    (hdb : (x == ("__debug__" : Str)) = false := by decide) (he : starEach (e :: es) X.env = (false, eval e X.env) :: starEach es X.env := by rfl)
    (hpl : ((backTo pos (starEach (e :: es) X.env)).any (·.1) || (backToKw pos (keywordEach kws X.env)).any (·.1.isNone)) = false := by rfl) :
    DE X (.Call (.Name x p) (e :: es) kws pos) (dCall n ks.length sp gD RE t tk) := by
  refine ⟨fun pins s σ H Q J h => ?_⟩
  have q := call_sp hg h hE
  refine wpAny_Call_Name_kw (ld_glob J hgl hm ?_ hdb)
  refine PySem.W.callWith_KW (h₀ := X.base) J.ok.mod.kin hk hall (thn (ha.run pos pins s σ H _ J q) ?_) hpl he
  rintro us s1 ⟨vs, H1, J1, r, q1⟩
  refine thn (hkw.run pos pins s1 σ H1 _ J1 q1) ?_
  rintro ws s2 ⟨zs, H2, J2, rz, l1, l2, hs⟩
  refine ⟨J2.kIn, ?_⟩
  rw [hks]
  exact run_g F hr gd hb hx J2 r rz l1 l2 hs
/-- o.m(e, ..), o.m() -/
def insv (h : OS) : D → Option (Addr × List (Str × D))
  | .ins C ns ds => some (C, ns.zip ds)
  | .ref n => match h[n]? with
    | some (.ins C fs) => some (C, fs)
    | _ => none
  | _ => none
theorem lookup_rd {K : Fg} {H : Hp} {I : List Addr} : ∀ {qs : List (Str × D)} {fs : List (Str × V)}, fs.map (·.1) = qs.map (·.1) → RDs K H I (qs.map (·.2)) (fs.map (·.2)) → ∀ (f : Str),
    (qs.lookup f = none → fs.lookup f = none) ∧ ∀ d, qs.lookup f = some d → ∃ v, fs.lookup f = some v ∧ RD K H I d v
  | [], [], _, _, f => ⟨fun _ => rfl, fun d e => by cases e⟩
  | [], _ :: _, e, _, _ => by cases e
  | _ :: _, [], e, _, _ => by cases e
  | (a, d) :: qs, (b, v) :: fs, e, r, f => by
    have e' : b :: fs.map (·.1) = a :: qs.map (·.1) := e
    injection e' with e1 e2
    subst e1
    cases r with
    | cons r1 r2 =>
      have ih := lookup_rd e2 r2 f
      rw [List.lookup_cons, List.lookup_cons]
      cases hq : f == b with
      | true =>
        constructor
        · intro z
          cases z
        · intro d' z
          cases z
          exact ⟨v, rfl, r1⟩
      | false => exact ih
theorem insv_ok {K : Fg} {H : Hp} {I : List Addr} {h : OS} {d : D} {v : V} {C : Addr} {fs : List (Str × D)} (hr : HR K I h H) (r : RD K H I d v) (e : insv h d = some (C, fs)) :
    ∃ a dx ws, v = .ref a ∧ H a = some (.ins C dx ws) ∧ (∀ f, fs.lookup f = none → ws.lookup f = none) ∧ ∀ f x, fs.lookup f = some x → ∃ y, ws.lookup f = some y ∧ RD K H I x y := by
  cases d with
  | ins C' ns ds =>
    cases r with
    | ins q n hk r =>
      rename_i p dx ws
      unfold insv at e
      injection e with e
      injection e with e1 e2
      subst e1 e2
      subst hk
      have hl : (ws.map (·.1)).length = ds.length := by rw [r.length, List.length_map, List.length_map]
      have l := fun f => lookup_rd (K := K) (H := H) (I := I) (qs := (ws.map (·.1)).zip ds) (fs := ws) (by rw [List.map_fst_zip (Nat.le_of_eq hl)]) (by rw [List.map_snd_zip (Nat.le_of_eq hl.symm)]; exact r) f
      exact ⟨p, dx, ws, rfl, q, fun f => (l f).1, fun f => (l f).2⟩
  | ref n =>
    obtain ⟨a, rfl, q⟩ := r.refv
    unfold insv at e
    simp only at e
    split at e
    · rename_i C' qs z
      injection e with e
      injection e with e1 e2
      subst e1 e2
      obtain ⟨dx, ws, q2, hk, r2⟩ := hr.ob n a _ q z
      have l := fun f => lookup_rd hk r2 f
      exact ⟨a, dx, ws, rfl, q2, fun f => (l f).1, fun f => (l f).2⟩
    · cases e
  | _ => cases e
def dMeth (C : Addr) (mn : Str) (n : Nat) (sp : DSp) (gD : List D → List D → List D) (RE : DX) (ta : TDE) (t : TDA) : TDE := fun δ h R => ta δ h fun x h1 => ∃ fs, insv h1 x = some (C, fs) ∧ fs.lookup mn = none ∧ t δ h1 fun ds h2 => ds.length = n ∧ sp (gD (x :: ds) []) h2 R RE
theorem d_meth {pl : Sem Bool} (ho : DE X o ta) (c : Cls X.K C) (hm : Meth X.K C m f) (F : FnD X.prog X.w X.K X.mg X.base CX k f fd ps sp) (hr : Room k X.A) (gd : X.A.guards = some []) (hb : KBn X.K fd ps (n + 1) [] g gV) (hg : KBd gV gD) (hx : Passes CX X E) (hE : ∀ I H, GoX X.K I H RE E) (ha : DA X (e :: es) t)
    (hst : starEach (e :: es) X.env = (false, eval e X.env) :: starEach es X.env := by rfl) (hpl : (backTo pos (starEach es X.env)).any (·.1) = false := by rfl)
    (ht : eval (.Call (.Attribute o m apos) (e :: es) [] pos) X.env = (do
      let ov ← eval o X.env
      standAt apos.atName
      let (f, first) ← holding [ov] (getMethod ov m pl)
      callWith pos f first (backTo pos (starEach (e :: es) X.env)) (backToKw pos (keywordEach [] X.env))) := by rfl) :
    DE X (.Call (.Attribute o m apos) (e :: es) [] pos) (dMeth C m n sp gD RE ta t) := by
  refine ⟨fun pins s σ H Q J ⟨I, δ, h, R, sr, hr0, hta, go⟩ => ?_⟩
  have q : up X.K ta σ H fun x H1 => ∃ a dx ws, x = .ref a ∧ H1 a = some (.ins C dx ws) ∧ ws.lookup m = none ∧ upA X.K t σ H1 fun vs H2 => vs.length = n ∧ upSp X.K sp (gV (x :: vs) []) H2 Q E := by
    refine ⟨I, δ, h, _, sr, hr0, hta, fun d h1 I1 H1 v ⟨fs, e1, e2, q1⟩ s1 hr1 rd => ?_⟩
    obtain ⟨a, dx, ws, rfl, q2, l1, _⟩ := insv_ok hr1 rd e1
    refine ⟨a, dx, ws, rfl, q2, l1 _ e2, I1, δ, h1, _, sr.step s1, hr1, q1, fun ds h2 I2 H2 vs ⟨l, hs⟩ s2 hr2 rs => ?_⟩
    exact ⟨by rw [← rs.length]; exact l, I2, gD (d :: ds) [], h2, R, RE, hr2, hg.rel (.cons (rd.step s2) rs) .nil, hs, go.after (s1.trans s2), hE I2 H2⟩
  refine PySem.W.methodCall_KW (pl := pl) (thn (ho.run pins s σ H _ J q) ?_) ht
  rintro u s1 ⟨x, H1, J1, rx, a, dx, ws, rfl, ea, l, q1⟩
  obtain rfl : u = Value.ref a := rx
  refine getmeth_ok J1 ea c hm l ?_
  refine PySem.W.callWith_K (first := [.ref a]) (h₀ := X.base) J.ok.mod.kin hm.kp (thn (ha.run pos pins s1 σ H1 _ J1 q1) ?_) hst hpl
  rintro us s2 ⟨vs, H2, J2, r, l1, q2⟩
  refine ⟨J2.kIn, ?_⟩
  exact run_g (us := .ref a :: us) (vs := .ref a :: vs) (ks := []) (ws := []) (zs := []) F hr gd hb hx J2 (.cons rfl r) .nil (by rw [List.length_cons, l1]) rfl q2
theorem d_meth0 {pl : Sem Bool} (ho : DE X o ta) (c : Cls X.K C) (hm : Meth X.K C m f) (F : FnD X.prog X.w X.K X.mg X.base CX k f fd ps sp) (hr : Room k X.A) (gd : X.A.guards = some []) (hb : KBn X.K fd ps 1 [] g gV) (hg : KBd gV gD) (hx : Passes CX X E) (hE : ∀ I H, GoX X.K I H RE E)
    (ht : eval (.Call (.Attribute o m apos) [] [] pos) X.env = (do
      let ov ← eval o X.env
      standAt apos.atName
      let (f, first) ← holding [ov] (getMethod ov m pl)
      callWith pos f first (backTo pos (starEach [] X.env)) (backToKw pos (keywordEach [] X.env))) := by rfl) :
    DE X (.Call (.Attribute o m apos) [] [] pos) (dMeth C m 0 sp gD RE ta dNil) := by
  refine ⟨fun pins s σ H Q J ⟨I, δ, h, R, sr, hr0, hta, go⟩ => ?_⟩
  have q : up X.K ta σ H fun x H1 => ∃ a dx ws, x = .ref a ∧ H1 a = some (.ins C dx ws) ∧ ws.lookup m = none ∧ upSp X.K sp (gV [x] []) H1 Q E := by
    refine ⟨I, δ, h, _, sr, hr0, hta, fun d h1 I1 H1 v ⟨fs, e1, e2, l, hs⟩ s1 hr1 rd => ?_⟩
    obtain ⟨a, dx, ws, rfl, q2, l1, _⟩ := insv_ok hr1 rd e1
    exact ⟨a, dx, ws, rfl, q2, l1 _ e2, I1, gD [d] [], h1, R, RE, hr1, hg.rel (.cons rd .nil) .nil, hs, go.after s1, hE I1 H1⟩
  refine PySem.W.methodCall_KW (pl := pl) (thn (ho.run pins s σ H _ J q) ?_) ht
  rintro u s1 ⟨x, H1, J1, rx, a, dx, ws, rfl, ea, l, q1⟩
  obtain rfl : u = Value.ref a := rx
  refine getmeth_ok J1 ea c hm l ?_
  refine PySem.W.callWith_K0 (first := [.ref a]) J1.kIn hm.kp ?_
  exact run_g (us := [.ref a]) (vs := [.ref a]) (ks := []) (ws := []) (zs := []) F hr gd hb hx J1 (.cons rfl .nil) .nil rfl rfl q1
/-- o.f -/
def dFld (C : Addr) (fn : Str) (ta : TDE) : TDE := fun δ h R => ta δ h fun x h1 => ∃ fs d, insv h1 x = some (C, fs) ∧ fs.lookup fn = some d ∧ R d h1
theorem d_fld (ho : DE X o ta) (c : Cls X.K C) (hn : NoAttr X.K C m) (hb : attributeBase o m X.env (eval o X.env) = eval o X.env := by rfl) : DE X (.Attribute o m pos) (dFld C m ta) := by
  refine PE.imp (pe_fld ho hb) fun σ H Q ⟨I, δ, h, R, sr, hr0, hta, go⟩ => ?_
  refine ⟨I, δ, h, _, sr, hr0, hta, fun d h1 I1 H1 v ⟨fs, d', e1, e2, q1⟩ s1 hr1 rd => ?_⟩
  obtain ⟨a, dx, ws, rfl, q2, _, l2⟩ := insv_ok hr1 rd e1
  obtain ⟨y, e3, r3⟩ := l2 _ _ e2
  exact ⟨a, C, dx, ws, y, rfl, q2, c, hn, e3, (go.after s1).now q1 hr1 r3⟩
/-- o.f = e -/
def putD (f : Str) (d : D) : List (Str × D) → List (Str × D)
  | [] => [(f, d)]
  | (g, x) :: r => if g = f then (g, d) :: r else (g, x) :: putD f d r
theorem putD_rd {K : Fg} {H : Hp} {I : List Addr} {f : Str} {d : D} {v : V} (a : RD K H I d v) : ∀ {qs : List (Str × D)} {fs : List (Str × V)}, fs.map (·.1) = qs.map (·.1) → RDs K H I (qs.map (·.2)) (fs.map (·.2)) →
    (putF f v fs).map (·.1) = (putD f d qs).map (·.1) ∧ RDs K H I ((putD f d qs).map (·.2)) ((putF f v fs).map (·.2))
  | [], [], _, _ => ⟨rfl, .cons a .nil⟩
  | [], _ :: _, e, _ => by cases e
  | _ :: _, [], e, _ => by cases e
  | (x, d') :: qs, (y, v') :: fs, e, r => by
    have e' : y :: fs.map (·.1) = x :: qs.map (·.1) := e
    injection e' with e1 e2
    subst e1
    cases r with
    | cons r1 r2 =>
      have ih := putD_rd (f := f) a e2 r2
      unfold putF putD
      by_cases z : y = f
      · rw [if_pos z, if_pos z]
        exact ⟨congrArg (List.cons y) e2, .cons a r2⟩
      · rw [if_neg z, if_neg z]
        exact ⟨congrArg (List.cons y) ih.1, .cons r1 ih.2⟩
def dSetF (C : Addr) (fn : Str) (ta tv : TDE) : TDS := fun E δ h => tv δ h fun d h1 => ta δ h1 fun x h2 => ∃ n fs, x = .ref n ∧ h2[n]? = some (.ins C fs) ∧ fs.length < 1000 ∧ E.nx δ (h2.set n (.ins C (putD fn d fs)))
theorem s_fld {value : Expr} {pos' : Pos} {tv : TDE} (ho : DE X o ta) (hv : DE X value tv) (c : Cls X.K C) (hn : NoAttr X.K C m) (hs : swapsWith value (some (.Attribute o m pos')) pos.line X.env = pure false := by rfl) :
    DSt X (.Assign [.Attribute o m pos'] value pos) (dSetF C m ta tv) := by
  refine PS.imp (ps_fld ho hv hs) fun E σ H ⟨I, δ, h, ED, sr, hr0, htv, go⟩ => ?_
  refine ⟨I, δ, h, _, sr, hr0, htv, fun d h1 I1 H1 v q1 s1 hr1 rd => ?_⟩
  refine ⟨I1, δ, h1, _, sr.step s1, hr1, q1, fun x h2 I2 H2 w ⟨n, fs, e1, e2, e3, q2⟩ s2 hr2 rx => ?_⟩
  subst e1
  obtain ⟨a, rfl, q⟩ := rx.refv
  obtain ⟨dx, ws, q3, hk, r3⟩ := hr2.ob n a _ q e2
  have hl : ws.length = fs.length := by
    have := congrArg List.length hk
    simpa using this
  refine ⟨a, C, dx, ws, rfl, q3, c, hn, by rw [hl]; exact e3, ?_⟩
  have m' : a ∈ I2 := List.mem_of_getElem? q
  have s3 : Stp I2 H2 I2 (upd H2 a (.ins C dx (putF m v ws))) := Stp.put m' ⟨_, q3⟩
  have pr := putD_rd (f := m) (rd.step s2) hk r3
  exact go.nx δ _ I2 _ σ q2 (s1.trans (s2.trans s3)) (hr2.put q ⟨dx, _, upd_same, pr.1, pr.2.step s3⟩) (sr.step (s1.trans (s2.trans s3)))
/-- o.f += e, o.f -= e, of ints -/
def dAugF (C : Addr) (op : Int → Int → Int) (fn : Str) (ta tv : TDE) : TDS := fun E δ h => ta δ h fun x h1 => ∃ n fs i, x = .ref n ∧ h1[n]? = some (.ins C fs) ∧ fs.lookup fn = some (.int i) ∧ tv δ h1 fun y h2 => ∃ j gs, y = .int j ∧ h2[n]? = some (.ins C gs) ∧ gs.length < 1000 ∧
  E.nx δ (h2.set n (.ins C (putD fn (.int (op i j)) gs)))
theorem aug_f {value : Expr} {tpos : Pos} {tv : TDE} {op : Operator} {opf : Int → Int → Int} (hop : InOp X op fun x y H Q => ∃ i j, x = .int i ∧ y = .int j ∧ Q (.int (opf i j)) H) (ho : DE X o ta) (hv : DE X value tv) (c : Cls X.K C) (hn : NoAttr X.K C m) :
    DSt X (.AugAssign (.Attribute o m tpos) op value pos) (dAugF C opf m ta tv) := by
  refine PS.imp (ps_fldaug ho hv hop) fun E σ H ⟨I, δ, h, ED, sr, hr0, hta, go⟩ => ?_
  refine ⟨I, δ, h, _, sr, hr0, hta, fun x h1 I1 H1 v ⟨n, fs, i, e1, e2, e3, q1⟩ s1 hr1 rx => ?_⟩
  subst e1
  obtain ⟨a, rfl, q⟩ := rx.refv
  obtain ⟨dx, ws, q3, hk, r3⟩ := hr1.ob n a _ q e2
  obtain ⟨y, e4, r4⟩ := (lookup_rd hk r3 m).2 _ e3
  cases r4
  refine ⟨a, C, dx, ws, _, rfl, q3, c, hn, e4, I1, δ, h1, _, sr.step s1, hr1, q1, fun y h2 I2 H2 w ⟨j, gs, e5, e6, e7, q2⟩ s2 hr2 ry => ?_⟩
  subst e5
  cases ry
  have q' : I2[n]? = some a := s2.at q
  obtain ⟨dx2, ws2, q4, hk2, r5⟩ := hr2.ob n a _ q' e6
  have hl : ws2.length = gs.length := by
    have := congrArg List.length hk2
    simpa using this
  refine ⟨i, j, rfl, rfl, dx2, ws2, q4, by rw [hl]; exact e7, ?_⟩
  have m' : a ∈ I2 := List.mem_of_getElem? q'
  have s3 : Stp I2 H2 I2 (upd H2 a (.ins C dx2 (putF m (.int (opf i j)) ws2))) := Stp.put m' ⟨_, q4⟩
  have pr := putD_rd (f := m) (K := X.K) (H := H2) (I := I2) (.int (opf i j)) hk2 r5
  exact go.nx δ _ I2 _ σ q2 (s1.trans (s2.trans s3)) (hr2.put q' ⟨dx2, _, upd_same, pr.1, pr.2.step s3⟩) (sr.step (s1.trans (s2.trans s3)))
theorem s_fldAdd {value : Expr} {tpos : Pos} {tv : TDE} (ho : DE X o ta) (hv : DE X value tv) (c : Cls X.K C) (hn : NoAttr X.K C m) : DSt X (.AugAssign (.Attribute o m tpos) .Add value pos) (dAugF C (fun i j => i + j) m ta tv) := aug_f in_add ho hv c hn
theorem s_fldSub {value : Expr} {tpos : Pos} {tv : TDE} (ho : DE X o ta) (hv : DE X value tv) (c : Cls X.K C) (hn : NoAttr X.K C m) : DSt X (.AugAssign (.Attribute o m tpos) .Sub value pos) (dAugF C (fun i j => i - j) m ta tv) := aug_f in_sub ho hv c hn
/-- C(..): an object of ours; or, made, a value that nobody changes -/
def dMake (C : Addr) (n m' : Nat) (sp : DSp) (gD : List D → List D → List D) (RE : DX) (t tk : TDA) : TDE := fun δ h R => t δ h fun ds h1 => tk δ h1 fun es h2 => ds.length = n ∧ es.length = m' ∧
  sp (gD (.ref h2.length :: ds) es) (h2 ++ [.ins C []]) (fun d h3 => d = .non ∧ R (.ref h2.length) h3) RE
def dMakeV (C : Addr) (n m' : Nat) (sp : DSp) (gD : List D → List D → List D) (RE : DX) (t tk : TDA) : TDE := fun δ h R => t δ h fun ds h1 => tk δ h1 fun es h2 => ds.length = n ∧ es.length = m' ∧
  sp (gD (.ref h2.length :: ds) es) (h2 ++ [.ins C []]) (fun d h3 => d = .non ∧ ∃ h4 o, h3 = h4 ++ [o] ∧ h4.length = h2.length ∧ okOs h4.length h4 ∧ okO h4.length o ∧ R (val o) h4) RE
theorem made {K : Fg} {I : List Addr} {h : OS} {H : Hp} {x dx : Addr} (hr : HR K I h H) (e1 : H x = none) (e2 : H dx = none) (hne : dx ≠ x) :
    Stp I H (I ++ [x]) (upd (upd H dx (.own x)) x (.ins C dx [])) ∧ HR K (I ++ [x]) (h ++ [.ins C []]) (upd (upd H dx (.own x)) x (.ins C dx [])) := by
  have e3 : upd H dx (.own x) x = none := by
    rw [upd_ne hne.symm]
    exact e1
  have s1 : Stp I H I (upd H dx (.own x)) := Stp.new e2
  exact ⟨s1.trans (Stp.push e3), (hr.new e2).push e3 ⟨dx, [], upd_same, rfl, .nil⟩⟩
theorem make_sp {σ : L2.St} {H : Hp} {Q : VK} {m' : Nat} (hg : KBd gV gD) (q : up X.K (dMake C n m' sp gD RE t tk) σ H Q) (hE : ∀ I H, GoX X.K I H RE E) :
    upA X.K t σ H fun vs H1 => upA X.K tk σ H1 fun zs H2 => vs.length = n ∧ zs.length = m' ∧ ∀ x dx, H2 x = none → H2 dx = none → dx ≠ x →
      upSp X.K sp (gV (.ref x :: vs) zs) (upd (upd H2 dx (.own x)) x (.ins C dx [])) (fun v H3 => v = .non ∧ Q (.ref x) H3) E := by
  obtain ⟨I, δ, h, R, sr, hr, ht, go⟩ := q
  refine ⟨I, δ, h, _, sr, hr, ht, fun ds h1 I1 H1 vs hR s1 hr1 rs => ?_⟩
  refine ⟨I1, δ, h1, _, sr.step s1, hr1, hR, fun es h2 I2 H2 zs ⟨l1, l2, hs⟩ s2 hr2 rz => ?_⟩
  refine ⟨by rw [← rs.length]; exact l1, by rw [← rz.length]; exact l2, fun x dx e1 e2 hne => ?_⟩
  obtain ⟨s3, hr3⟩ := made (C := C) hr2 e1 e2 hne
  have self : RD X.K (upd (upd H2 dx (.own x)) x (.ins C dx [])) (I2 ++ [x]) (.ref h2.length) (.ref x) := .ref (by rw [← hr2.len, List.getElem?_append_right (Nat.le_refl _), Nat.sub_self]; rfl)
  refine ⟨I2 ++ [x], _, _, _, RE, hr3, hg.rel (.cons self (rs.step (s2.trans s3))) (rz.step s3), hs, ?_, hE _ _⟩
  rintro d h4 I4 H4 v ⟨rfl, hR4⟩ s4 hr4 rd
  cases rd
  exact ⟨rfl, go _ h4 I4 H4 _ hR4 (s1.trans (s2.trans (s3.trans s4))) hr4 (self.step s4)⟩
theorem makeV_sp {σ : L2.St} {H : Hp} {Q : VK} {m' : Nat} (hg : KBd gV gD) (q : up X.K (dMakeV C n m' sp gD RE t tk) σ H Q) (hE : ∀ I H, GoX X.K I H RE E) :
    upA X.K t σ H fun vs H1 => upA X.K tk σ H1 fun zs H2 => vs.length = n ∧ zs.length = m' ∧ ∀ x dx, H2 x = none → H2 dx = none → dx ≠ x →
      upSp X.K sp (gV (.ref x :: vs) zs) (upd (upd H2 dx (.own x)) x (.ins C dx [])) (fun v H3 => v = .non ∧ Q (.ref x) H3) E := by
  obtain ⟨I, δ, h, R, sr, hr, ht, go⟩ := q
  refine ⟨I, δ, h, _, sr, hr, ht, fun ds h1 I1 H1 vs hR s1 hr1 rs => ?_⟩
  refine ⟨I1, δ, h1, _, sr.step s1, hr1, hR, fun es h2 I2 H2 zs ⟨l1, l2, hs⟩ s2 hr2 rz => ?_⟩
  refine ⟨by rw [← rs.length]; exact l1, by rw [← rz.length]; exact l2, fun x dx e1 e2 hne => ?_⟩
  obtain ⟨s3, hr3⟩ := made (C := C) hr2 e1 e2 hne
  have self : RD X.K (upd (upd H2 dx (.own x)) x (.ins C dx [])) (I2 ++ [x]) (.ref h2.length) (.ref x) := .ref (by rw [← hr2.len, List.getElem?_append_right (Nat.le_refl _), Nat.sub_self]; rfl)
  refine ⟨I2 ++ [x], _, _, _, RE, hr3, hg.rel (.cons self (rs.step (s2.trans s3))) (rz.step s3), hs, ?_, hE _ _⟩
  rintro d h4 I4 H4 v ⟨rfl, h5, o, rfl, hl, ok1, ok2, hR4⟩ s4 hr4 rd
  cases rd
  have s24 := s2.trans (s3.trans s4)
  refine ⟨rfl, go _ h5 (I4.take h5.length) H4 _ hR4 (s1.trans (s24.drop ?_)) (hr4.drop ok1) (frozen hr4 (self.step s4) ?_ (Nat.le_of_eq hl) ok2)⟩
  · rw [hl, ← hr2.len]
    obtain ⟨new, e, _⟩ := s2.pre
    rw [e, List.length_append]
    omega
  · rw [← hl, List.getElem?_append_right (Nat.le_refl _), Nat.sub_self]
    rfl
section
variable (M : Mk X.K C f) (F : FnD X.prog X.w X.K X.mg X.base CX k f fd ps sp) (hr : Room (k + 1) X.A) (gd : X.A.guards = some []) (hgl : Gl X x) (hm : X.mg x = some (.ref C)) (hg : KBd gV gD) (hx : Passes CX X E) (hE : ∀ I H, GoX X.K I H RE E)
include M F hr gd hgl hm hg hx hE
theorem make_run (hb : KBn X.K fd ps (n + 1) [] g gV) {tt : TDE} (hsp : ∀ σ H Q, up X.K tt σ H Q → upA X.K t σ H fun vs H1 => upA X.K dNil σ H1 fun zs H2 => vs.length = n ∧ zs.length = 0 ∧ ∀ x dx, H2 x = none → H2 dx = none → dx ≠ x →
      upSp X.K sp (gV (.ref x :: vs) zs) (upd (upd H2 dx (.own x)) x (.ins C dx [])) (fun v H3 => v = .non ∧ Q (.ref x) H3) E)
    (ha : DA X (e :: es) t) (hdb : (x == ("__debug__" : Str)) = false := by decide) (he : starEach (e :: es) X.env = (false, eval e X.env) :: starEach es X.env := by rfl) (hpl : (backTo pos (starEach es X.env)).any (·.1) = false := by rfl) :
    DE X (.Call (.Name x p) (e :: es) [] pos) tt := by
  refine ⟨fun pins s σ H Q J h => ?_⟩
  have q := hsp σ H Q h
  refine wpAny_Call_Name_kw (ld_glob J hgl hm ?_ hdb)
  refine PySem.W.callWith_K (h₀ := X.base) J.ok.mod.kin M.kp (thn (ha.run pos pins s σ H _ J q) ?_) he hpl
  rintro us s1 ⟨vs, H1, J1, r, q1⟩
  refine ⟨J1.kIn, ?_⟩
  obtain ⟨I, δ, h0, R, sr, hr0, ht, go⟩ := q1
  obtain ⟨l1, l2, hs⟩ := go [] h0 I H1 [] ht Stp.refl hr0 .nil
  exact make_g (ks := []) (ws := []) (zs := []) M F hr gd hb hx J1 r .nil l1 rfl hs
theorem d_make (hb : KBn X.K fd ps (n + 1) [] g gV) (ha : DA X (e :: es) t) (hdb : (x == ("__debug__" : Str)) = false := by decide) (he : starEach (e :: es) X.env = (false, eval e X.env) :: starEach es X.env := by rfl) (hpl : (backTo pos (starEach es X.env)).any (·.1) = false := by rfl) :
    DE X (.Call (.Name x p) (e :: es) [] pos) (dMake C n 0 sp gD RE t dNil) := make_run M F hr gd hgl hm hg hx hE hb (fun σ H Q q => make_sp hg q hE) ha hdb he hpl
theorem d_makeV (hb : KBn X.K fd ps (n + 1) [] g gV) (ha : DA X (e :: es) t) (hdb : (x == ("__debug__" : Str)) = false := by decide) (he : starEach (e :: es) X.env = (false, eval e X.env) :: starEach es X.env := by rfl) (hpl : (backTo pos (starEach es X.env)).any (·.1) = false := by rfl) :
    DE X (.Call (.Name x p) (e :: es) [] pos) (dMakeV C n 0 sp gD RE t dNil) := make_run M F hr gd hgl hm hg hx hE hb (fun σ H Q q => makeV_sp hg q hE) ha hdb he hpl
theorem make_runK (hb : KBn X.K fd ps (n + 1) ks g gV) {tt : TDE} (hsp : ∀ σ H Q, up X.K tt σ H Q → upA X.K t σ H fun vs H1 => upA X.K tk σ H1 fun zs H2 => vs.length = n ∧ zs.length = ks.length ∧ ∀ x dx, H2 x = none → H2 dx = none → dx ≠ x →
      upSp X.K sp (gV (.ref x :: vs) zs) (upd (upd H2 dx (.own x)) x (.ins C dx [])) (fun v H3 => v = .non ∧ Q (.ref x) H3) E)
    (ha : DA X (e :: es) t) (hkw : DKw X kws tk) (hall : (backToKw pos (keywordEach kws X.env)).all (·.1.isSome) = true := by rfl) (hks : (backToKw pos (keywordEach kws X.env)).filterMap (·.1) = ks := by rfl)
    (hdb : (x == ("__debug__" : Str)) = false := by decide) (he : starEach (e :: es) X.env = (false, eval e X.env) :: starEach es X.env := by rfl)
    (hpl : ((backTo pos (starEach (e :: es) X.env)).any (·.1) || (backToKw pos (keywordEach kws X.env)).any (·.1.isNone)) = false := by rfl) :
    DE X (.Call (.Name x p) (e :: es) kws pos) tt := by
  refine ⟨fun pins s σ H Q J h => ?_⟩
  have q := hsp σ H Q h
  refine wpAny_Call_Name_kw (ld_glob J hgl hm ?_ hdb)
  refine PySem.W.callWith_KW (h₀ := X.base) J.ok.mod.kin M.kp hall (thn (ha.run pos pins s σ H _ J q) ?_) hpl he
  rintro us s1 ⟨vs, H1, J1, r, q1⟩
  refine thn (hkw.run pos pins s1 σ H1 _ J1 q1) ?_
  rintro ws s2 ⟨zs, H2, J2, rz, l1, l2, hs⟩
  refine ⟨J2.kIn, ?_⟩
  rw [hks]
  exact make_g M F hr gd hb hx J2 r rz l1 l2 hs
theorem d_makeK (hb : KBn X.K fd ps (n + 1) ks g gV) (ha : DA X (e :: es) t) (hkw : DKw X kws tk) (hall : (backToKw pos (keywordEach kws X.env)).all (·.1.isSome) = true := by rfl) (hks : (backToKw pos (keywordEach kws X.env)).filterMap (·.1) = ks := by rfl)
    (hdb : (x == ("__debug__" : Str)) = false := by decide) (he : starEach (e :: es) X.env = (false, eval e X.env) :: starEach es X.env := by rfl)
    (hpl : ((backTo pos (starEach (e :: es) X.env)).any (·.1) || (backToKw pos (keywordEach kws X.env)).any (·.1.isNone)) = false := by rfl) :
    DE X (.Call (.Name x p) (e :: es) kws pos) (dMake C n ks.length sp gD RE t tk) := make_runK M F hr gd hgl hm hg hx hE hb (fun σ H Q q => make_sp hg q hE) ha hkw hall hks hdb he hpl
theorem d_makeKV (hb : KBn X.K fd ps (n + 1) ks g gV) (ha : DA X (e :: es) t) (hkw : DKw X kws tk) (hall : (backToKw pos (keywordEach kws X.env)).all (·.1.isSome) = true := by rfl) (hks : (backToKw pos (keywordEach kws X.env)).filterMap (·.1) = ks := by rfl)
    (hdb : (x == ("__debug__" : Str)) = false := by decide) (he : starEach (e :: es) X.env = (false, eval e X.env) :: starEach es X.env := by rfl)
    (hpl : ((backTo pos (starEach (e :: es) X.env)).any (·.1) || (backToKw pos (keywordEach kws X.env)).any (·.1.isNone)) = false := by rfl) :
    DE X (.Call (.Name x p) (e :: es) kws pos) (dMakeV C n ks.length sp gD RE t tk) := make_runK M F hr gd hgl hm hg hx hE hb (fun σ H Q q => makeV_sp hg q hE) ha hkw hall hks hdb he hpl
end
end

/-! ### calls of what Python brings -/
def dCB (f : FA) (t : TDA) : TDE := fun δ h R => t δ h fun ds h1 => f ds h1 R
theorem up_cb {K : Fg} {f : FA} {t : TDA} {σ : L2.St} {H : Hp} {Q : VK} (q : up K (dCB f t) σ H Q) : tCB (upL K f) (upA K t) σ H Q := by
  obtain ⟨I, δ, h, R, sr, hr, ht, go⟩ := q
  exact ⟨I, δ, h, _, sr, hr, ht, fun ds h1 I1 H1 vs hR s1 hr1 rs => ⟨I1, ds, h1, R, hr1, rs, hR, go.after s1⟩⟩
abbrev DC (X : Cx) (f : Value) (r : FA) : Prop := CallR X f (upL X.K r)
section
variable {X : Cx} {x : Str} {p pos : Pos} {e : Expr} {es : List Expr} {t : TDA} {id T : String} {f : FA}
theorem d_callB (hc : DC X (.builtin id) f) (hg : Gl X x) (hm : X.mg x = none) (hv : bootBuiltins x = some (.builtin id)) (ha : DA X (e :: es) t) (hn : x ≠ "__name__" := by decide) (hdb : (x == ("__debug__" : Str)) = false := by decide)
    (he : starEach (e :: es) X.env = (false, eval e X.env) :: starEach es X.env := by rfl) (hpl : (backTo pos (starEach es X.env)).any (·.1) = false := by rfl) : DE X (.Call (.Name x p) (e :: es) [] pos) (dCB f t) :=
  PE.imp (pe_callB hc hg hm hv ha hn hdb he hpl) fun _ _ _ => up_cb
theorem d_callTy (hc : DC X (.type T) f) (hg : Gl X x) (hm : X.mg x = none) (hv : bootBuiltins x = some (.type T)) (ha : DA X (e :: es) t) (hn : x ≠ "__name__" := by decide) (hdb : (x == ("__debug__" : Str)) = false := by decide)
    (he : starEach (e :: es) X.env = (false, eval e X.env) :: starEach es X.env := by rfl) (hpl : (backTo pos (starEach es X.env)).any (·.1) = false := by rfl) : DE X (.Call (.Name x p) (e :: es) [] pos) (dCB f t) :=
  PE.imp (pe_callTy hc hg hm hv ha hn hdb he hpl) fun _ _ _ => up_cb
end
/-- methods of what Python brings -/
abbrev FM := D → List D → OS → DK → Prop
def upM (K : Fg) (f : FM) : V → List V → Hp → VK → Prop := fun x xs H Q => ∃ I dx ds h R, HR K I h H ∧ RD K H I dx x ∧ RDs K H I ds xs ∧ f dx ds h R ∧ Go K I H R Q
/-- the receiver is of that type -/
def tyD (T : String) (h : OS) : D → Prop
  | .str _ => T = "str"
  | .lst _ => T = "list"
  | .ref n => (T = "list" ∧ ∃ ds, h[n]? = some (.lst ds)) ∨ (T = "dict" ∧ ∃ qs, h[n]? = some (.dct qs))
  | .dct _ _ => T = "dict"
  | _ => False
theorem tyD_ok {K : Fg} {H : Hp} {I : List Addr} {h : OS} {T : String} {d : D} {v : V} (hr : HR K I h H) (r : RD K H I d v) (q : tyD T h d) : tyV K T v H := by
  cases r with
  | str x => exact q
  | lst e n r => exact Or.inl ⟨q, _, SqL.of e⟩
  | dct e n hk r => exact Or.inr (Or.inr (Or.inl ⟨q, Or.inl ⟨_, e⟩⟩))
  | ref e =>
    rcases q with ⟨q, ds, z⟩ | ⟨q, qs, z⟩
    · obtain ⟨xs, q2, _⟩ := hr.ob _ _ _ e z
      exact Or.inl ⟨q, xs, SqL.of q2⟩
    · obtain ⟨kvs, q2, _⟩ := hr.ob _ _ _ e z
      exact Or.inr (Or.inr (Or.inl ⟨q, Or.inl ⟨_, q2⟩⟩))
  | _ => exact q.elim
def dBM (T : String) (f : FM) (to : TDE) (t : TDA) : TDE := fun δ h R => to δ h fun x h1 => tyD T h1 x ∧ t δ h1 fun ds h2 => f x ds h2 R
section
variable {X : Cx} {o e : Expr} {es : List Expr} {to : TDE} {t : TDA} {name : Str} {apos cpos : Pos} {T id : String} {f : FM}
theorem d_bm0 (pa : PlainAttrs T) (slot : Slot T name id) (hty : typeOf (.builtin id) = pure (.type "method_descriptor")) (hm : MtR X id (upM X.K f)) (ho : DE X o to)
    (hbase : attributeBase o name X.env (eval o X.env) = eval o X.env := by rfl) (hline : (apos.endLine == cpos.line) = true := by rfl) : DE X (.Call (.Attribute o name apos) [] [] cpos) (dBM T f to dNil) := by
  refine PE.imp (pe_bm0 pa slot hty hm ho hbase hline) fun σ H Q ⟨I, δ, h, R, sr, hr, ht, go⟩ => ?_
  exact ⟨I, δ, h, _, sr, hr, ht, fun d h1 I1 H1 v ⟨ty, q⟩ s1 hr1 rd => ⟨tyD_ok hr1 rd ty, I1, d, [], h1, R, hr1, rd, .nil, q, go.after s1⟩⟩
theorem d_bm (pa : PlainAttrs T) (slot : Slot T name id) (hty : typeOf (.builtin id) = pure (.type "method_descriptor")) (hm : MtR X id (upM X.K f)) (ho : DE X o to) (ha : DA X (e :: es) t)
    (hbase : attributeBase o name X.env (eval o X.env) = eval o X.env := by rfl)
    (hfew : ((backTo cpos (starEach (e :: es) X.env)).all (fun x => !x.1) && (backToKw cpos (keywordEach [] X.env)).all (fun x => x.1.isSome)
      && decide ((e :: es).length + ([] : List Keyword).length + (if ([] : List Keyword).isEmpty then 0 else 1) < 30)) = true := by rfl)
    (hline : (apos.endLine == cpos.line) = true := by rfl) (hs : starEach (e :: es) X.env = (false, eval e X.env) :: starEach es X.env := by rfl) (hplain : (backTo cpos (starEach es X.env)).any (·.1) = false := by rfl) :
    DE X (.Call (.Attribute o name apos) (e :: es) [] cpos) (dBM T f to t) := by
  refine PE.imp (pe_bm pa slot hty hm ho ha hbase hfew hline hs hplain) fun σ H Q ⟨I, δ, h, R, sr, hr, ht, go⟩ => ?_
  refine ⟨I, δ, h, _, sr, hr, ht, fun d h1 I1 H1 v ⟨ty, q⟩ s1 hr1 rd => ⟨tyD_ok hr1 rd ty, I1, δ, h1, _, sr.step s1, hr1, q, fun ds h2 I2 H2 vs hR s2 hr2 rs => ?_⟩⟩
  exact ⟨I2, d, ds, h2, R, hr2, rd.step s2, rs, hR, go.after (s1.trans s2)⟩
end
end FL
/-! What Python brings: functions, methods; comprehensions; a law's end. -/
namespace FL
open PySem PySem.Spec PyProof.Rows L2

/-! ### functions -/
def fLen : FA := fun ds h R => ∃ x, ds = [x] ∧ match x with
  | .str z => z.length ≤ sizeLine ∧ R (.int z.length) h
  | x => ∃ k es, sqv h x = some (k, es) ∧ R (.int es.length) h
def fMin2 : FA := fun ds h R => ∃ i j, ds = [.int i, .int j] ∧ R (.int (if j < i then j else i)) h
def fMax2 : FA := fun ds h R => ∃ i j, ds = [.int i, .int j] ∧ R (.int (if j > i then j else i)) h
def fInt : FA := fun ds h R => ∃ x, ds = [x] ∧ match x with
  | .int i => R (.int i) h
  | .bl b => R (.int (if b then 1 else 0)) h
  | _ => False
def fBool : FA := fun ds h R => ∃ x, ds = [x] ∧ match x with
  | .int i => R (.bl (i != 0)) h
  | .bl b => R (.bl b) h
  | _ => False
def fStr : FA := fun ds h R => ∃ x, ds = [x] ∧ match x with
  | .int i => i.natAbs.log2 < 1920 ∧ R (.str (toString i)) h
  | _ => False
def fTuple : FA := fun ds h R => ∃ x k es, ds = [x] ∧ sqv h x = some (k, es) ∧ R (.tup es) h
def fList : FA := fun ds h R => ∃ x k es, ds = [x] ∧ sqv h x = some (k, es) ∧ R (.lst es) h
def fListN : FA := fun ds h R => ∃ x k es, ds = [x] ∧ sqv h x = some (k, es) ∧ R (.ref h.length) (h ++ [.lst es])
def fSum : FA := fun ds h R => ∃ (x : D) (ns : List Int), ds = [x] ∧ sqv h x = some (true, ns.map D.int) ∧ R (.int ns.sum) h
def fAll : FA := fun ds h R => ∃ (x : D) (bs : List Bool), ds = [x] ∧ sqv h x = some (true, bs.map D.bl) ∧ R (.bl (bs.all id)) h
def fAny : FA := fun ds h R => ∃ (x : D) (bs : List Bool), ds = [x] ∧ sqv h x = some (true, bs.map D.bl) ∧ R (.bl (bs.any id)) h
section
variable {X : Cx} {K : Fg} {H : Hp} {I : List Addr}
theorem RDs.one {d : D} {vs : List V} (r : RDs K H I [d] vs) : ∃ v, vs = [v] ∧ RD K H I d v := by
  cases r with
  | cons a r =>
    cases r
    exact ⟨_, rfl, a⟩
theorem RDs.two {d e : D} {vs : List V} (r : RDs K H I [d, e] vs) : ∃ v w, vs = [v, w] ∧ RD K H I d v ∧ RD K H I e w := by
  cases r with
  | cons a r =>
    obtain ⟨w, rfl, b⟩ := r.one
    exact ⟨_, w, rfl, a, b⟩
theorem RDs.ints : ∀ {ns : List Int} {vs : List V}, RDs K H I (ns.map D.int) vs → vs = ns.map V.int
  | [], _, r => by
    cases r
    rfl
  | n :: ns, _, r => by
    cases r with
    | cons a r =>
      cases a
      rw [RDs.ints r]
      rfl
theorem RDs.bls : ∀ {ns : List Bool} {vs : List V}, RDs K H I (ns.map D.bl) vs → vs = ns.map V.bl
  | [], _, r => by
    cases r
    rfl
  | n :: ns, _, r => by
    cases r with
    | cons a r =>
      cases a
      rw [RDs.bls r]
      rfl
theorem RDs.strs : ∀ {ns : List Str} {vs : List V}, RDs K H I (ns.map D.str) vs → vs = ns.map V.str
  | [], _, r => by
    cases r
    rfl
  | n :: ns, _, r => by
    cases r with
    | cons a r =>
      cases a
      rw [RDs.strs r]
      rfl
theorem rds_ints : ∀ (ns : List Int), RDs K H I (ns.map D.int) (ns.map V.int)
  | [] => .nil
  | n :: ns => .cons (.int n) (rds_ints ns)
theorem rds_strs : ∀ (ns : List Str), RDs K H I (ns.map D.str) (ns.map V.str)
  | [] => .nil
  | n :: ns => .cons (.str n) (rds_strs ns)
theorem o_len : DC X (.builtin "len") fLen := by
  intro pins s σ H xs us Q J r ⟨I, ds, h, R, hr, rd, ⟨x, e, hf⟩, go⟩
  subst e
  obtain ⟨v, rfl, rx⟩ := rd.one
  split at hf
  · cases rx
    exact call_len_str pins s σ H _ us Q J r ⟨_, rfl, hf.1, go.now hf.2 hr (.int _)⟩
  · obtain ⟨k, es, e1, hR⟩ := hf
    obtain ⟨p, ws, rfl, hs, rs⟩ := sqv_ok hr rx e1
    refine call_len_seq pins s σ H _ us Q J r ⟨p, ws, rfl, hs.imp (·.2) (·.2), ?_⟩
    rw [← rs.length]
    exact go.now hR hr (.int _)
theorem o_min2 (hc : X.calm = true) : DC X (.builtin "min") fMin2 := by
  intro pins s σ H xs us Q J r ⟨I, ds, h, R, hr, rd, ⟨i, j, e, hR⟩, go⟩
  subst e
  obtain ⟨v, w, rfl, r1, r2⟩ := rd.two
  cases r1
  cases r2
  exact call_min2 hc pins s σ H _ us Q J r ⟨i, j, rfl, go.now hR hr (.int _)⟩
theorem o_max2 (hc : X.calm = true) : DC X (.builtin "max") fMax2 := by
  intro pins s σ H xs us Q J r ⟨I, ds, h, R, hr, rd, ⟨i, j, e, hR⟩, go⟩
  subst e
  obtain ⟨v, w, rfl, r1, r2⟩ := rd.two
  cases r1
  cases r2
  exact call_max2 hc pins s σ H _ us Q J r ⟨i, j, rfl, go.now hR hr (.int _)⟩
theorem o_int : DC X (.type "int") fInt := by
  intro pins s σ H xs us Q J r ⟨I, ds, h, R, hr, rd, ⟨x, e, hf⟩, go⟩
  subst e
  obtain ⟨v, rfl, rx⟩ := rd.one
  split at hf
  · cases rx
    exact call_int1 pins s σ H _ us Q J r (Or.inl ⟨_, rfl, go.now hf hr (.int _)⟩)
  · cases rx
    exact call_int1 pins s σ H _ us Q J r (Or.inr ⟨_, rfl, go.now hf hr (.int _)⟩)
  · exact hf.elim
theorem o_bool : DC X (.type "bool") fBool := by
  intro pins s σ H xs us Q J r ⟨I, ds, h, R, hr, rd, ⟨x, e, hf⟩, go⟩
  subst e
  obtain ⟨v, rfl, rx⟩ := rd.one
  split at hf
  · cases rx
    exact call_bool1 pins s σ H _ us Q J r (Or.inl ⟨_, rfl, go.now hf hr (.bl _)⟩)
  · cases rx
    exact call_bool1 pins s σ H _ us Q J r (Or.inr ⟨_, rfl, go.now hf hr (.bl _)⟩)
  · exact hf.elim
theorem o_str : DC X (.type "str") fStr := by
  intro pins s σ H xs us Q J r ⟨I, ds, h, R, hr, rd, ⟨x, e, hf⟩, go⟩
  subst e
  obtain ⟨v, rfl, rx⟩ := rd.one
  split at hf
  · cases rx
    exact call_str_int pins s σ H _ us Q J r ⟨_, rfl, hf.1, go.now hf.2 hr (.str _)⟩
  · exact hf.elim
theorem o_tuple : DC X (.type "tuple") fTuple := by
  intro pins s σ H xs us Q J r ⟨I, ds, h, R, hr, rd, ⟨x, k, es, e, e1, hR⟩, go⟩
  subst e
  obtain ⟨v, rfl, rx⟩ := rd.one
  obtain ⟨p, ws, rfl, hs, rs⟩ := sqv_ok hr rx e1
  refine call_tuple_of pins s σ H _ us Q J r ⟨p, ws, rfl, ?_⟩
  rcases hs with ⟨_, hs⟩ | ⟨hk, hs⟩
  · exact Or.inl ⟨hs, go.tup hR hr rs⟩
  · refine Or.inr ⟨hs, ?_⟩
    subst hk
    cases x with
    | tup qs =>
      cases e1
      exact go.now hR hr rx
    | ref n =>
      unfold sqv at e1
      simp only at e1
      split at e1 <;> cases e1
    | _ => cases e1
theorem o_list : DC X (.type "list") fList := by
  intro pins s σ H xs us Q J r ⟨I, ds, h, R, hr, rd, ⟨x, k, es, e, e1, hR⟩, go⟩
  subst e
  obtain ⟨v, rfl, rx⟩ := rd.one
  obtain ⟨p, ws, rfl, hs, rs⟩ := sqv_ok hr rx e1
  exact call_list_of pins s σ H _ us Q J r ⟨p, ws, rfl, hs.imp (·.2) (·.2), go.lst hR hr rs⟩
theorem o_listN : DC X (.type "list") fListN := by
  intro pins s σ H xs us Q J r ⟨I, ds, h, R, hr, rd, ⟨x, k, es, e, e1, hR⟩, go⟩
  subst e
  obtain ⟨v, rfl, rx⟩ := rd.one
  obtain ⟨p, ws, rfl, hs, rs⟩ := sqv_ok hr rx e1
  exact call_list_of pins s σ H _ us Q J r ⟨p, ws, rfl, hs.imp (·.2) (·.2), go.lstN hR hr rs⟩
theorem o_sum (hc : X.calm = true) : DC X (.builtin "sum") fSum := by
  intro pins s σ H xs us Q J r ⟨I, ds, h, R, hr, rd, ⟨x, ns, e, e1, hR⟩, go⟩
  subst e
  obtain ⟨v, rfl, rx⟩ := rd.one
  obtain ⟨p, ws, rfl, hs, rs⟩ := sqv_ok hr rx e1
  have := rs.ints
  subst this
  rcases hs with ⟨_, hs⟩ | ⟨hk, hs⟩
  · exact cr_sum hc pins s σ H _ us Q J r ⟨p, ns, rfl, hs, go.now hR hr (.int _)⟩
  · cases hk
theorem o_all (hc : X.calm = true) : DC X (.builtin "all") fAll := by
  intro pins s σ H xs us Q J r ⟨I, ds, h, R, hr, rd, ⟨x, ns, e, e1, hR⟩, go⟩
  subst e
  obtain ⟨v, rfl, rx⟩ := rd.one
  obtain ⟨p, ws, rfl, hs, rs⟩ := sqv_ok hr rx e1
  have := rs.bls
  subst this
  rcases hs with ⟨_, hs⟩ | ⟨hk, hs⟩
  · exact cr_all hc pins s σ H _ us Q J r ⟨p, ns, rfl, hs, go.now hR hr (.bl _)⟩
  · cases hk
theorem o_any (hc : X.calm = true) : DC X (.builtin "any") fAny := by
  intro pins s σ H xs us Q J r ⟨I, ds, h, R, hr, rd, ⟨x, ns, e, e1, hR⟩, go⟩
  subst e
  obtain ⟨v, rfl, rx⟩ := rd.one
  obtain ⟨p, ws, rfl, hs, rs⟩ := sqv_ok hr rx e1
  have := rs.bls
  subst this
  rcases hs with ⟨_, hs⟩ | ⟨hk, hs⟩
  · exact cr_any hc pins s σ H _ us Q J r ⟨p, ns, rfl, hs, go.now hR hr (.bl _)⟩
  · cases hk
end

/-! ### repr -/
/-- what may be written out -/
structure ShowP (p : PyData) : Prop where
  sh : p.showable = true
  nd : p.hasDict = false
  dp : p.depth ≤ 60
  sz : p.shown.length ≤ sizeLine
def fRepr : FA := fun ds h R => ∃ x p, ds = [x] ∧ toP (vw h x) = some p ∧ ShowP p ∧ R (.str p.shown) h
theorem o_repr {X : Cx} {k : Nat} (hr : Room k X.A) (gd : X.A.guards = some []) : DC X (.builtin "repr") fRepr := by
  intro pins s σ H xs us Q J r ⟨I, ds, h, R, hr0, rd, ⟨x, p, e, e1, sp, hR⟩, go⟩
  subst e
  obtain ⟨v, rfl, rx⟩ := rd.one
  obtain ⟨u, rfl, ru⟩ := vals1 r
  have dp := dp_vw hr0 rx e1
  obtain ⟨as, rr⟩ := Dp.reads J p v u dp ru
  have q : Q (.str p.shown) H := go.now hR hr0 (.str _)
  have hu := hr.units
  have hd := sp.dp
  cases rr with
  | none => exact PySem.P.repr_of_none ⟨V.str _, H, J.tok _, ⟨_, rfl⟩, q⟩
  | bool b => exact PySem.P.repr_of_bool ⟨V.str _, H, J.tok _, ⟨_, rfl⟩, q⟩
  | int i t =>
    have hi : i.natAbs.log2 < 1920 := by
      have := sp.sh
      simpa [PyData.showable] using this
    exact PySem.P.repr_of_int hi ⟨V.str _, H, J.tok _, ⟨_, rfl⟩, q⟩
  | str z t => exact PySem.P.repr_of_str ⟨V.str _, H, J.tok _, ⟨_, rfl⟩, q⟩ sp.sz
  | list a1 a2 a3 a4 =>
    exact repr_of_reads' (.list a1 a2 a3 a4) sp.sh (PyData.noDict_hsm sp.nd) gd (by omega) (fun _ _ e => e) (fun h' u tk hk => ⟨V.str _, H, J.kept hk, ⟨_, rfl⟩, q⟩) sp.sz
  | tuple a1 a2 a3 a4 =>
    exact repr_of_reads' (.tuple a1 a2 a3 a4) sp.sh (PyData.noDict_hsm sp.nd) gd (by omega) (fun _ _ e => e) (fun h' u tk hk => ⟨V.str _, H, J.kept hk, ⟨_, rfl⟩, q⟩) sp.sz
  | dict a1 a2 a3 a4 a5 =>
    have := sp.nd
    simp [PyData.hasDict] at this

/-! ### methods -/
def mAppend : FM := fun x ds h R => ∃ n y es, x = .ref n ∧ ds = [y] ∧ h[n]? = some (.lst es) ∧ es.length < sizeLine ∧ R .non (h.set n (.lst (es ++ [y])))
def mJoin : FM := fun x ds h R => ∃ (a : Str) (y : D) (k : Bool) (ss : List Str), x = .str a ∧ ds = [y] ∧ sqv h y = some (k, ss.map D.str) ∧ (ss.map (·.length)).sum + ss.length * a.length ≤ 16777216 ∧ R (.str (Txt.join a ss)) h
section
variable {X : Cx}
theorem o_append : MtR X "list.append" (upM X.K mAppend) := by
  intro pins s σ H x xs v us Q J rv r ⟨I, dx, ds, h, R, hr, rx, rd, ⟨n, y, es, e1, e2, e3, hl, hR⟩, go⟩
  subst e1 e2
  obtain ⟨a, rfl, q⟩ := rx.refv
  obtain ⟨w, rfl, rw'⟩ := rd.one
  obtain ⟨ws, q2, r2⟩ := hr.ob n a _ q e3
  have m : a ∈ I := List.mem_of_getElem? q
  have s1 : Stp I H I (upd H a (.lst (ws ++ [w]))) := Stp.put m ⟨_, q2⟩
  refine mt_append pins s σ H _ _ v us Q J rv r ⟨a, ws, w, rfl, rfl, q2, by rw [← r2.length]; exact hl, ?_⟩
  exact go _ _ I _ _ hR s1 (hr.put q ⟨_, upd_same, (r2.append (.cons rw' .nil)).step s1⟩) .non
theorem o_join : MtR X "str.join" (upM X.K mJoin) := by
  intro pins s σ H x xs v us Q J rv r ⟨I, dx, ds, h, R, hr, rx, rd, ⟨a, y, k, ss, e1, e2, e3, hl, hR⟩, go⟩
  subst e1 e2
  cases rx
  obtain ⟨w, rfl, rw'⟩ := rd.one
  obtain ⟨p, ws, rfl, hs, rs⟩ := sqv_ok hr rw' e3
  have := rs.strs
  subst this
  exact mt_join pins s σ H _ _ v us Q J rv r ⟨a, p, ss, rfl, rfl, hs.imp (·.2) (·.2), hl, go.now hR hr (.str _)⟩
end

/-! ### comprehensions -/
def wipeD (δ : DS) : List Nat → DS
  | [] => δ
  | v :: vs => (wipeD δ vs).set v none
theorem SR.forget {K : Fg} {H : Hp} {I : List Addr} {δ : DS} {σ : L2.St} (r : SR K H I δ σ) (i : Nat) : SR K H I (δ.set i none) (σ.set i none) := by
  refine ⟨by rw [List.length_set, List.length_set]; exact r.1, fun j e q => ?_⟩
  by_cases z : i = j
  · subst z
    have hl : i < δ.length := by
      have := (List.getElem?_eq_some_iff.mp q).1
      rw [List.length_set] at this
      exact this
    rw [List.getElem?_set_self hl] at q
    cases q
  · rw [List.getElem?_set_ne z] at q
    rw [List.getElem?_set_ne z]
    exact r.2 j e q
theorem SR.wiped {K : Fg} {H : Hp} {I : List Addr} {δ : DS} {σ : L2.St} (r : SR K H I δ σ) : ∀ vs : List Nat, SR K H I (wipeD δ vs) (wipe σ vs)
  | [] => r
  | v :: vs => (r.wiped vs).forget v
theorem wipe_set {σ : L2.St} {i : Nat} {x : Option V} : ∀ {vs : List Nat}, i ∈ vs → wipe (σ.set i x) vs = wipe σ vs := by
  have comm : ∀ (σ : L2.St) (vs : List Nat), i ∉ vs → wipe (σ.set i x) vs = (wipe σ vs).set i x := by
    intro σ vs
    induction vs with
    | nil => exact fun _ => rfl
    | cons v vs ih =>
      intro h
      have h1 : i ≠ v := fun z => h (z ▸ List.mem_cons_self)
      have h2 : i ∉ vs := fun z => h (List.mem_cons_of_mem _ z)
      show (wipe (σ.set i x) vs).set v none = ((wipe σ vs).set v none).set i x
      rw [ih h2, List.set_comm _ _ h1]
  intro vs
  induction vs with
  | nil =>
    intro h
    cases h
  | cons v vs ih =>
    intro h
    show (wipe (σ.set i x) vs).set v none = (wipe σ vs).set v none
    by_cases z : i ∈ vs
    · rw [ih z]
    · have : i = v := by
        rcases List.mem_cons.mp h with e | e
        · exact e
        · exact absurd e z
      subst this
      rw [comm σ vs z, List.set_set]
/-- a comprehension's target: a name, or names of a tuple's parts -/
inductive CTg where
  | one (i : Nat) : CTg
  | many (is : List Nat) : CTg
def setAll : DS → List Nat → List D → DS
  | δ, i :: is, d :: ds => setAll (δ.set i (some d)) is ds
  | δ, _, _ => δ
def CTg.put : CTg → D → DS → (DS → Prop) → Prop
  | .one i, d, δ, R => R (δ.set i (some d))
  | .many is, d, δ, R => ∃ ds, d = .tup ds ∧ ds.length = is.length ∧ R (setAll δ is ds)
def CTg.slots : CTg → List Nat
  | .one i => [i]
  | .many is => is
def gsOf : List Nat → TGs
  | [] => gNil
  | i :: is => gCons (gName i) (gsOf is)
def CTg.g (K : Fg) : CTg → TG
  | .one i => gName i
  | .many is => gTup K is.length (gsOf is)
theorem gsOf_ok {K : Fg} {H : Hp} {I : List Addr} {vs : List Nat} : ∀ {is : List Nat} {ds : List D} {ws : List V} {δ : DS} {σ : L2.St} {Q : L2.St → Hp → Prop}, RDs K H I ds ws → ds.length = is.length → SR K H I δ σ → (∀ i ∈ is, i ∈ vs) →
    (∀ σ', SR K H I (setAll δ is ds) σ' → wipe σ' vs = wipe σ vs → Q σ' H) → gsOf is ws σ H Q
  | [], _, _, δ, σ, Q, .nil, _, sr, _, q => ⟨rfl, q σ sr rfl⟩
  | [], _, _, _, _, _, .cons _ _, e, _, _, _ => by cases e
  | i :: is, _, _, _, _, _, .nil, e, _, _, _ => by cases e
  | i :: is, _, _, δ, σ, Q, .cons a r, e, sr, hv, q => by
    refine ⟨_, _, rfl, gsOf_ok r (by injection e) (sr.set i a) (fun j hj => hv j (List.mem_cons_of_mem _ hj)) fun σ' sr' w => q σ' sr' ?_⟩
    rw [w, wipe_set (hv i List.mem_cons_self)]
theorem CTg.ok {K : Fg} {H : Hp} {I : List Addr} {vs : List Nat} {c : CTg} {d : D} {w : V} {δ : DS} {σ : L2.St} {R : DS → Prop} {Q : L2.St → Hp → Prop} (hv : ∀ i ∈ c.slots, i ∈ vs) (rd : RD K H I d w) (sr : SR K H I δ σ) (p : c.put d δ R)
    (q : ∀ δ' σ', R δ' → SR K H I δ' σ' → wipe σ' vs = wipe σ vs → Q σ' H) : c.g K w σ H Q := by
  cases c with
  | one i => exact q _ _ p (sr.set i rd) (wipe_set (hv i List.mem_cons_self))
  | many is =>
    obtain ⟨ds, rfl, hl, p⟩ := p
    cases rd with
    | tup a b => exact ⟨_, _, rfl, a.sq, by rw [← b.length]; exact hl, gsOf_ok b hl sr hv fun σ' sr' w => q _ σ' p sr' w⟩
/-- the comprehension's tests -/
abbrev DTs (X : Cx) (ifs : List Expr) (t : TDT) : Prop := PTs X ifs (upT X.K t)
theorem PTs.imp {X : Cx} {e : List Expr} {t t' : TT} (h : PTs X e t) (i : ∀ σ H Q, t' σ H Q → t σ H Q) : PTs X e t' := ⟨fun pins s σ H Q I q => h.run pins s σ H Q I (i σ H Q q)⟩
def dYes : TDT := fun _ h R => R true h
theorem ts_nil {X : Cx} : DTs X [] dYes := PTs.imp pts_nil fun σ H Q ⟨I, δ, h, R, sr, hr, r, g⟩ => g true h I H r Stp.refl hr
theorem ts_one {X : Cx} {c : Expr} {t : TDT} (h : DT X c t) : DTs X [c] t := pts_one h
theorem wipe_wipe (σ : L2.St) (vs : List Nat) : wipe (wipe σ vs) vs = wipe σ vs := by
  have key : ∀ (us : List Nat) (τ : L2.St), (∀ i ∈ us, i < τ.length → τ[i]? = some none) → wipe τ us = τ := by
    intro us
    induction us with
    | nil => exact fun _ _ => rfl
    | cons u us ih =>
      intro τ h
      show (wipe τ us).set u none = τ
      rw [ih τ fun i hi => h i (List.mem_cons_of_mem _ hi)]
      apply List.ext_getElem?
      intro j
      by_cases z : u = j
      · subst z
        by_cases hl : u < τ.length
        · rw [List.getElem?_set_self hl, h u List.mem_cons_self hl]
        · rw [List.getElem?_eq_none (by rw [List.length_set]; omega), List.getElem?_eq_none (by omega)]
      · rw [List.getElem?_set_ne z]
  refine key vs _ fun i hi hl => ?_
  cases e : (wipe σ vs)[i]? with
  | none =>
    rw [List.getElem?_eq_none_iff] at e
    omega
  | some o =>
    cases o with
    | none => rfl
    | some x => exact absurd hi (wipe_some e).2
/-- [elt for target in .. if ..]: Pv by the turn, what is made so far, and our objects (of the number as before) -/
def dLcP (si : TDI) (c : CTg) (tt : TDT) (te : TDE) (vs : List Nat) (fin : List D → OS → DK → Prop) : TDE := fun δ h R => si δ h fun S h1 => ∃ Pv : Nat → List D → OS → Prop, Pv 0 [] h1 ∧ (∀ i acc h, i ≤ S.items.length → Pv i acc h → h.length = h1.length ∧ acc.length ≤ i ∧ okOs h.length h ∧ okRs h.length acc ∧ S.G (h ++ [.lst acc])) ∧ S.items.length < sizeLine ∧
  (∀ (i : Nat) d acc h, S.items[i]? = some d → Pv i acc h → c.put d (wipeD δ vs) fun δ2 => tt δ2 (h ++ [.lst acc]) fun b h3 =>
    if b = true then te δ2 h3 fun y h4 => ∃ h5 g, h4 = h5 ++ (.lst acc :: g) ∧ okOs h1.length h5 ∧ okR h1.length y ∧ Pv (i + 1) (acc ++ [y]) h5 else ∃ h5 g, h3 = h5 ++ (.lst acc :: g) ∧ okOs h1.length h5 ∧ Pv (i + 1) acc h5) ∧
  ∀ acc h, Pv S.items.length acc h → fin acc h R
mutual
theorem okR.mono {m n : Nat} (h : m ≤ n) : ∀ {d : D}, okR m d → okR n d
  | .ref i, k => Nat.lt_of_lt_of_le (show i < m from k) h
  | .tup ds, k => okRs.mono h (ds := ds) k
  | .lst ds, k => okRs.mono h (ds := ds) k
  | .scr ds, k => okRs.mono h (ds := ds) k
  | .dct _ ds, k => okRs.mono h (ds := ds) k
  | .ins _ _ ds, k => okRs.mono h (ds := ds) k
  | .non, _ => trivial
  | .bl _, _ => trivial
  | .int _, _ => trivial
  | .str _, _ => trivial
  | .ty _, _ => trivial
  | .obj _, _ => trivial
theorem okRs.mono {m n : Nat} (h : m ≤ n) : ∀ {ds : List D}, okRs m ds → okRs n ds
  | [], _ => trivial
  | d :: ds, k => ⟨okR.mono h (d := d) k.1, okRs.mono h (ds := ds) k.2⟩
end
theorem okO.mono {m n : Nat} (h : m ≤ n) {o : O} (k : okO m o) : okO n o := by
  cases o with
  | lst ds => exact okRs.mono h k
  | dct qs => exact okRs.mono h k
  | ins C qs => exact okRs.mono h k
theorem okOs.mono {m n : Nat} (h : m ≤ n) {os : OS} (k : okOs m os) : okOs n os := okOs_iff.mpr fun o ho => (okOs_iff.mp k o ho).mono h
theorem okOs_append {n : Nat} {a b : OS} (h1 : okOs n a) (h2 : okOs n b) : okOs n (a ++ b) := okOs_iff.mpr fun o ho => by
  rcases List.mem_append.mp ho with z | z
  · exact okOs_iff.mp h1 o z
  · exact okOs_iff.mp h2 o z
theorem okRs_append {n : Nat} {a b : List D} (h1 : okRs n a) (h2 : okRs n b) : okRs n (a ++ b) := okRs_iff.mpr fun o ho => by
  rcases List.mem_append.mp ho with z | z
  · exact okRs_iff.mp h1 o z
  · exact okRs_iff.mp h2 o z
theorem lc_up {K : Fg} {si : TDI} {c : CTg} {tt : TDT} {te : TDE} {vs : List Nat} {fin : List D → OS → DK → Prop} {σ : L2.St} {H : Hp} {Q : VK} (hv : ∀ i ∈ c.slots, i ∈ vs)
    (hfin : ∀ acc h I Dd H2 (R : DK) (Q : VK), fin acc h R → HR K (I ++ [Dd]) (h ++ [.lst acc]) H2 → okOs h.length h → okRs h.length acc → I.length = h.length →
      (∀ d h' I' v, R d h' → (I' = I ∨ I' = I ++ [Dd]) → HR K I' h' H2 → RD K H2 I' d v → Q v H2) → Q (.ref Dd) H2)
    (q : up K (dLcP si c tt te vs fin) σ H Q) : tLc (upI K si) (c.g K) (upT K tt) (up K te) vs σ H Q := by
  obtain ⟨I, δ, h, R, sr, hr, q, go⟩ := q
  refine ⟨I, δ, h, _, sr, hr, q, fun S h1 I1 H1 J ⟨Pv, p0, pG, psz, ps, pd⟩ s1 hr1 w Dd eD => ?_⟩
  have len1 : I1.length = h1.length := hr1.len
  have sr1 := (sr.step s1).wiped vs
  refine ⟨fun i m H2 => m + i = S.items.length ∧ ∃ acc h2, HR K (I1 ++ [Dd]) (h2 ++ [.lst acc]) H2 ∧ Stp I1 H1 (I1 ++ [Dd]) H2 ∧ Pv i acc h2, ⟨S.items.length, Nat.add_zero _, [], h1, hr1.push (x := .lst []) eD ⟨[], upd_same, .nil⟩, Stp.push eD, p0⟩, ?_⟩
  rintro i m H2 ⟨hm, acc, h2, hr2, s2, p2⟩
  obtain ⟨hl, hacc, ok1, ok2, gd⟩ := pG i acc h2 (by omega) p2
  by_cases hi : i = S.items.length
  · left
    subst hi
    refine ⟨w.stops _ H2 _ s2 hr2 gd, ?_⟩
    refine hfin acc h2 I1 Dd H2 R Q (pd acc h2 p2) hr2 ok1 ok2 (by rw [len1, hl]) fun d h' I' v hR hI hr' rd => ?_
    have st : Stp I1 H1 I' H2 := by
      rcases hI with e | e
      · subst e
        have := s2.drop (n := I'.length) (Nat.le_refl _)
        rw [List.take_append_of_le_length (Nat.le_refl _), List.take_length] at this
        exact this
      · subst e
        exact s2
    exact go d h' I' H2 v hR (s1.trans st) hr' rd
  · right
    have hlt : i < S.items.length := by omega
    have e : S.items[i]? = some S.items[i] := List.getElem?_eq_getElem hlt
    refine ⟨w.goes i _ H2 _ s2 hr2 gd hlt, fun H' => ∃ acc h2, HR K (I1 ++ [Dd]) (h2 ++ [.lst acc]) H' ∧ Stp I1 H1 (I1 ++ [Dd]) H' ∧ Pv (i + 1) acc h2, ?_, ?_⟩
    · rintro H' ⟨acc', h', a, b, d⟩
      exact ⟨m - 1, by omega, by omega, acc', h', a, b, d⟩
    · intro x H3 y
      obtain ⟨s3, hr3, rd⟩ := w.yields i _ H2 _ _ x H3 s2 hr2 gd e y
      have s13 := s2.trans s3
      refine CTg.ok hv rd (sr1.step s13) (ps i _ acc h2 e p2) fun δ2 σ2 q2 sr2 ws => ⟨?_, ?_⟩
      · rw [ws]
        exact wipe_wipe σ vs
      · refine ⟨_, δ2, _, _, sr2, hr3, q2, fun b h3 I4 H4 q4 s4 hr4 => ?_⟩
        have s14 := s13.trans s4
        -- the objects behind, forgotten
        have back : ∀ {h4 : OS} {I5 : List Addr} {H5 : Hp} {h5 g : OS} {acc' : List D}, Stp I1 H1 I5 H5 → (∃ new, I5 = (I1 ++ [Dd]) ++ new) → HR K I5 (h5 ++ (.lst acc' :: g)) H5 → okOs h1.length h5 → Pv (i + 1) acc' h5 →
            ∃ acc h2, HR K (I1 ++ [Dd]) (h2 ++ [.lst acc]) H5 ∧ Stp I1 H1 (I1 ++ [Dd]) H5 ∧ Pv (i + 1) acc h2 := by
          intro h4 I5 H5 h5 g acc' st hI5 hr5 ok5 p5
          obtain ⟨new, rfl⟩ := hI5
          obtain ⟨hl5, _, _, oka, _⟩ := pG (i + 1) acc' h5 (by omega) p5
          have hr6 : HR K (((I1 ++ [Dd]) ++ new).take (h5 ++ [O.lst acc']).length) (h5 ++ [O.lst acc']) H5 := by
            refine HR.drop (g := g) ?_ ?_
            · have e8 : h5 ++ [O.lst acc'] ++ g = h5 ++ (O.lst acc' :: g) := by
                rw [List.append_assoc]
                rfl
              rw [e8]
              exact hr5
            · refine okOs_append (ok5.mono ?_) ⟨oka.mono ?_, trivial⟩
              · rw [List.length_append, hl5]
                exact Nat.le_add_right _ _
              · rw [List.length_append]
                exact Nat.le_add_right _ _
          have e6 : ((I1 ++ [Dd]) ++ new).take (h5 ++ [O.lst acc']).length = I1 ++ [Dd] := by
            have : (h5 ++ [O.lst acc']).length = (I1 ++ [Dd]).length := by
              rw [List.length_append, List.length_append, hl5, len1]
              rfl
            rw [this, List.take_append_of_le_length (Nat.le_refl _), List.take_length]
          rw [e6] at hr6
          refine ⟨acc', h5, hr6, ?_, p5⟩
          have := st.drop (n := (I1 ++ [Dd]).length) (by rw [List.length_append]; exact Nat.le_add_right _ _)
          rw [List.take_append_of_le_length (Nat.le_refl _), List.take_length] at this
          exact this
        cases b with
        | false =>
          have q4' : ∃ h5 g, h3 = h5 ++ (.lst acc :: g) ∧ okOs h1.length h5 ∧ Pv (i + 1) acc h5 := q4
          obtain ⟨h5, g, rfl, ok5, p5⟩ := q4'
          obtain ⟨new, e5, _⟩ := s4.pre
          exact back (h4 := []) s14 ⟨new, e5⟩ hr4 ok5 p5
        | true =>
          refine ⟨I4, δ2, h3, _, sr2.step s4, hr4, q4, fun y h4 I5 H5 yv q5 s5 hr5 ry => ?_⟩
          obtain ⟨h5, g, rfl, ok5, oky, p5⟩ := q5
          have s15 := s14.trans s5
          obtain ⟨hl5, hacc5, _, _, _⟩ := pG (i + 1) (acc ++ [y]) h5 (by omega) p5
          obtain ⟨new, e5, _⟩ := (s4.trans s5).pre
          have eD5 : I5[h5.length]? = some Dd := by
            rw [e5, hl5, ← len1, List.append_assoc, List.getElem?_append_right (Nat.le_refl _), Nat.sub_self]
            rfl
          have ob := hr5.ob h5.length Dd (.lst acc) eD5 (by rw [List.getElem?_append_right (Nat.le_refl _), Nat.sub_self]; rfl)
          obtain ⟨accV, eA, rA⟩ := ob
          have hlen : acc.length < sizeLine := by
            rw [List.length_append] at hacc5
            have : acc.length + 1 ≤ i + 1 := hacc5
            omega
          refine ⟨accV, eA, by rw [← rA.length]; exact hlen, ?_⟩
          have mD : Dd ∈ I5 := List.mem_of_getElem? eD5
          have s6 : Stp I5 H5 I5 (upd H5 Dd (.lst (accV ++ [yv]))) := Stp.put mD ⟨_, eA⟩
          have hr6 := hr5.put (x := .lst (acc ++ [y])) eD5 ⟨_, upd_same, (rA.append (.cons ry .nil)).step s6⟩
          have e7 : (h5 ++ (O.lst acc :: g)).set h5.length (.lst (acc ++ [y])) = h5 ++ (.lst (acc ++ [y]) :: g) := by
            rw [List.set_append_right _ _ (Nat.le_refl _), Nat.sub_self]
            rfl
          rw [e7] at hr6
          exact back (h4 := []) (s15.trans s6) ⟨new, e5⟩ hr6 ok5 p5
def dLc (si : TDI) (c : CTg) (tt : TDT) (te : TDE) (vs : List Nat) : TDE := dLcP si c tt te vs fun acc h R => R (.lst acc) h
def dLcN (si : TDI) (c : CTg) (tt : TDT) (te : TDE) (vs : List Nat) : TDE := dLcP si c tt te vs fun acc h R => R (.ref h.length) (h ++ [.lst acc])
section
variable {X : Cx} {elt tg iter : Expr} {ifs : List Expr} {scope : Scope} {own : List (Str × Nat)} {pos : Pos} {si : TDI} {c : CTg} {tt : TDT} {te : TDE}
theorem fin_val {K : Fg} : ∀ (acc : List D) (h : OS) (I : List Addr) (Dd : Addr) (H2 : Hp) (R : DK) (Q : VK), R (.lst acc) h → HR K (I ++ [Dd]) (h ++ [.lst acc]) H2 → okOs h.length h → okRs h.length acc → I.length = h.length →
      (∀ d h' I' v, R d h' → (I' = I ∨ I' = I ++ [Dd]) → HR K I' h' H2 → RD K H2 I' d v → Q v H2) → Q (.ref Dd) H2 := by
  intro acc h I Dd H2 R Q hR hr ok1 ok2 hl q
  have hr2 := hr.drop ok1
  have e : (I ++ [Dd]).take h.length = I := by
    rw [← hl, List.take_append_of_le_length (Nat.le_refl _), List.take_length]
  rw [e] at hr2
  have eD : (I ++ [Dd])[h.length]? = some Dd := by
    rw [← hl, List.getElem?_append_right (Nat.le_refl _), Nat.sub_self]
    rfl
  have fz := frozen (m := h.length) hr (.ref eD) (show (h ++ [O.lst acc])[h.length]? = some (.lst acc) by rw [List.getElem?_append_right (Nat.le_refl _), Nat.sub_self]; rfl) (Nat.le_refl _) ok2
  rw [e] at fz
  exact q _ h I _ hR (Or.inl rfl) hr2 fz
theorem fin_new {K : Fg} : ∀ (acc : List D) (h : OS) (I : List Addr) (Dd : Addr) (H2 : Hp) (R : DK) (Q : VK), R (.ref h.length) (h ++ [.lst acc]) → HR K (I ++ [Dd]) (h ++ [.lst acc]) H2 → okOs h.length h → okRs h.length acc → I.length = h.length →
      (∀ d h' I' v, R d h' → (I' = I ∨ I' = I ++ [Dd]) → HR K I' h' H2 → RD K H2 I' d v → Q v H2) → Q (.ref Dd) H2 := by
  intro acc h I Dd H2 R Q hR hr ok1 ok2 hl q
  refine q _ _ (I ++ [Dd]) _ hR (Or.inr rfl) hr (.ref ?_)
  rw [← hl, List.getElem?_append_right (Nat.le_refl _), Nat.sub_self]
  rfl
theorem d_lc (hc : X.calm = true) (hN : X.N.Nodup) (hi : DI X tg iter si) (ok : BlkOk X.N X.env.scope scope own) (hv : ∀ i ∈ c.slots, i ∈ own.map (·.2))
    (hg : ∀ (s : Shared) (H : Hp) (C : Addr) (cl : List (Str × Addr)) (fp : List Addr), PG (X.blk s H scope (compEnvC scope cl C X.env) fp) tg (c.g X.K)) (ht : ∀ (s : Shared) (H : Hp) (C : Addr) (cl : List (Str × Addr)) (fp : List Addr), DTs (X.blk s H scope (compEnvC scope cl C X.env) fp) ifs tt)
    (he : ∀ (s : Shared) (H : Hp) (C : Addr) (cl : List (Str × Addr)) (fp : List Addr), DE (X.blk s H scope (compEnvC scope cl C X.env) fp) elt te) (hs : ∀ x, foldedSetIterable iter X.env x = pure x := by intro _; rfl) :
    DE X (.ListComp elt [⟨tg, iter, ifs, 0⟩] scope pos) (dLc si c tt te (own.map (·.2))) := PE.imp (pe_lc hc hN hi ok hg ht he hs) fun _ _ _ => lc_up hv fin_val
theorem d_lcN (hc : X.calm = true) (hN : X.N.Nodup) (hi : DI X tg iter si) (ok : BlkOk X.N X.env.scope scope own) (hv : ∀ i ∈ c.slots, i ∈ own.map (·.2))
    (hg : ∀ (s : Shared) (H : Hp) (C : Addr) (cl : List (Str × Addr)) (fp : List Addr), PG (X.blk s H scope (compEnvC scope cl C X.env) fp) tg (c.g X.K)) (ht : ∀ (s : Shared) (H : Hp) (C : Addr) (cl : List (Str × Addr)) (fp : List Addr), DTs (X.blk s H scope (compEnvC scope cl C X.env) fp) ifs tt)
    (he : ∀ (s : Shared) (H : Hp) (C : Addr) (cl : List (Str × Addr)) (fp : List Addr), DE (X.blk s H scope (compEnvC scope cl C X.env) fp) elt te) (hs : ∀ x, foldedSetIterable iter X.env x = pure x := by intro _; rfl) :
    DE X (.ListComp elt [⟨tg, iter, ifs, 0⟩] scope pos) (dLcN si c tt te (own.map (·.2))) := PE.imp (pe_lc hc hN hi ok hg ht he hs) fun _ _ _ => lc_up hv fin_new
end
end FL
/-! A law's end over data. -/
namespace FL
open PySem PySem.Spec PyProof.Rows L2

/-- the law's own promise: a script of ints is handed in, True comes back -/
def spLaw : DSp := fun ds h R _ => ∃ ns : List Int, ds = [.scr (ns.map D.int)] ∧ h = [] ∧ ns.length ≤ 63 ∧ R (.bl true) []

section
variable {P : Program} {w : World} {K : Fg} {mg mb : Str → Option Value} {CX : CXT} {k : Nat} {fa a : Addr} {fd : FuncData} {x : Str} {s1 : Shared} {vs : List Value} {ns : List Int}
theorem law_run (H : Hp) (only : Only H) (hS : SqL K H a (ns.map V.int)) (hok : HOk P w H s1.heap) (hA : ∀ b, H b ≠ none → b = a) (hK : H a ≠ none → K.lookup a = none)
    (KX : K.In s1.heap) (hns : s1.heap.Ns mainGlobals mg) (hb : s1.heap.Ns builtinsNs mb) (hbb : ∀ x : Str, x ≠ "__name__" → mb x = bootBuiltins x) (lim : s1.heap.NoLimit) (hg : s1.gens = #[])
    (ha : s1.heap.get? a = some { cls := .type "list", data := .seq vs.toArray }) (hr : Room k callerA) (hl : ns.length ≤ 63)
    (F : ∀ base : Heap, K.In base → base.Ns mainGlobals mg → FnD P w K mg base CX k fa fd [x] spLaw) (bind : ∀ (s : Shared) (u : Value), BindsTo s fd ⟨[u], []⟩ [(x, u)])
    (hCX : ∀ H e s', CX [] H s1 (fun _ _ _ => False) e s' → False) :
    codeAny (model P w) callerA (.call (.ref fa) ⟨[.ref a], []⟩) (fun r s' => r = .ok (.ret (.bool true)) ∧ OldK s1.heap s'.heap ∧ s'.os = s1.os ∧ AllBare s'.gens) s1 := by
  -- nothing but the script is tracked, so dicts are not
  have noD : ∀ (b : Addr) (o : Obj) (es : Array DictEntry) (ep : Nat), s1.heap.get? b = some o → o.data = .dict es ep → H b = none := by
    intro b o es ep e d
    cases q : H b with
    | none => rfl
    | some u =>
      have z : b = a := hA b (by rw [q]; exact Option.some_ne_none u)
      subst z
      rw [ha] at e
      cases e
      cases d
  have ns' : ∀ (b : Addr) (m : Str → Option Value), s1.heap.Ns b m → (hidT s1.heap H).Ns b m := by
    rintro b m ⟨o, es, ep, e, d, r⟩
    exact ⟨o, es, ep, hidT_get e (noD b o es ep e d), d, r⟩
  have inK : K.In (hidT s1.heap H) := by
    intro b o e
    refine hidT_get (KX b o e) ?_
    cases q : H b with
    | none => rfl
    | some u =>
      have nn : H b ≠ none := by rw [q]; exact Option.some_ne_none u
      have z : b = a := hA b nn
      subst z
      rw [hK nn] at e
      cases e
  have md : Mod K mg (hidT s1.heap H) := by
    refine ⟨inK, ns' _ _ hns, ⟨mb, ns' _ _ hb, hbb⟩, ?_⟩
    obtain ⟨mc, h1, h2⟩ := lim
    exact ⟨mc, ns' _ _ h1, h2⟩
  have e0 : Env0 P w K mg (hidT s1.heap H) callerA [] s1 H := by
    refine ⟨rfl, md, fun b o e => of_hidT e, Nat.le_of_eq (hidT_size _ _), trivial, fun b hb => ?_, hok, .of_eq hg⟩
    cases (show b ∈ ([] : List Addr) from hb)
  have st : upSp K spLaw [.ref a] H (fun v _ => v = .bl true) (fun _ _ _ => False) := by
    refine ⟨[], [.scr (ns.map D.int)], [], fun d h => d = .bl true, NoX, ⟨rfl, List.nodup_nil, fun i a o e => by cases e⟩, ?_, ⟨ns, rfl, rfl, hl, rfl⟩, ?_, GoX.no⟩
    · refine .cons (.scr ?_ (rds_ints ns)) .nil
      rcases hS with (hS | ⟨o, hS⟩) | hS
      · rcases only a with z | ⟨o, xs, z⟩
        · rw [z] at hS
          cases hS
        · rw [z] at hS
          cases hS
      · exact Or.inl ⟨o, hS, List.not_mem_nil⟩
      · exact Or.inr (Or.inr hS)
    · intro d h' I' H' v hd s2 hr2 rd
      subst hd
      cases rd
      rfl
  have run := (F _ inK (ns' _ _ hns)).run callerA [] s1 H ⟨[.ref a], []⟩ [.ref a] [.ref a] _ _ hr rfl e0 (bind s1 (.ref a)) (.cons rfl .nil) st
  refine codeAny_mono run ?_
  intro r s' h
  cases r with
  | error e => exact (hCX H e s' h).elim
  | ok fl =>
    cases fl with
    | next => exact h.elim
    | brk => exact h.elim
    | cont => exact h.elim
    | ret u =>
      obtain ⟨v, H', os, bare, un, hok', r', q⟩ := h
      have q' : v = .bl true := q
      subst q'
      obtain rfl : u = Value.bool true := r'
      refine ⟨rfl, OldK.of_keep ?_, os, bare⟩
      intro b o e
      cases q : H b with
      | none => exact un.keep b o e q (by intro z; cases (show b ∈ ([] : List Addr) from z)) (by intro z; cases z)
      | some u =>
        rcases only b with z | ⟨ob, xs, z⟩
        · rw [q] at z
          cases z
        · have e1 := (hok b _ z).1
          have e2 := (hok' b _ (un.frzs b ob _ z)).1
          rw [e] at e1
          cases e1
          exact e2
/-- from a def that keeps the law's promise to what k_head leaves -/
theorem walk_d {l : PySem.W.OpenLaw} {q : Program} {loose : List Str} {XP : (Str → Option Value) → Heap → Prop} {YP : World → Heap → Prop} {d : DefRec} {K : Params → Fg}
    (hn : l.most = some 63) (hdf : d.params.defaults = []) (hr : Room k callerA) (hY : ∀ (w : World) (h : Heap), YP w h → (K w.params).In h)
    (F : ∀ (w : World) (mg : Str → Option Value) (fa : Addr) (h : Heap), (K w.params).In h → h.Ns mainGlobals mg → mg d.name = some (.ref fa) →
      ∃ fd : FuncData, (∀ (s : Shared) (u : Value), BindsTo s fd ⟨[u], []⟩ [(x, u)]) ∧ ∀ base : Heap, (K w.params).In base → base.Ns mainGlobals mg → FnD l.prog w (K w.params) mg base CX0 k fa fd [x] spLaw) :
    PySem.W.WalkO q loose XP YP l.row.toRowW d [] (fun f vs => PySem.call f vs) := by
  refine Att.attach_call hn hdf ?_
  intro w s₀ s₁ mg mb fa o pm cd doc a vs ns G Y ho hd hcd hmg hobj hints hlen hg
  have KX := hY w _ Y
  obtain ⟨fd, hb, hF⟩ := F w mg fa _ KX G.T.g hmg
  have rv := vals_ints hints
  have len := hints.length
  have big : ns.length ≤ sizeLine := Nat.le_trans hlen (by decide)
  cases hk : (K w.params).lookup a with
  | some ob =>
    have e := KX a ob hk
    rw [hobj] at e
    cases e
    refine law_run (fun _ => none) (fun _ => Or.inl rfl) (Or.inr ⟨_, vs.toArray, _, hk, rfl, rfl, rfl, ?_, ?_⟩) ?_ (fun b z => absurd rfl z) (fun z => absurd rfl z) KX G.T.g G.T.b G.T.builtins G.T.nolimit hg hobj hr hlen hF hb (fun _ _ _ z => z)
    · rw [List.size_toArray, len]
      exact big
    · simpa using rv
    · intro b u z
      cases (show (none : Option HO) = some u from z)
  | none =>
    refine law_run (fun b => if b = a then some (.frz { cls := .type "list", data := .seq vs.toArray } (.lst (ns.map V.int))) else none) ?_ (Or.inl (Or.inr ⟨_, if_pos rfl⟩)) ?_ ?_ (fun _ => hk) KX G.T.g G.T.b G.T.builtins G.T.nolimit hg hobj hr hlen hF hb (fun _ _ _ z => z)
    · intro b
      by_cases z : b = a
      · exact Or.inr ⟨_, _, if_pos z⟩
      · exact Or.inl (if_neg z)
    · intro b u z
      by_cases e : b = a
      · have z' := (if_pos e).symm.trans z
        cases z'
        subst e
        exact ⟨hobj, by rw [List.length_map]; exact big, vs, _, rv, hobj⟩
      · have z' := (if_neg e).symm.trans z
        cases z'
    · intro b z
      by_cases e : b = a
      · exact e
      · exact absurd (if_neg e) z
end
end FL
/-! Short words for a text's own defs and classes. -/
namespace FL
open PySem PySem.Spec PyProof.Rows L2

/-- the module's name x is a def of n parameters that keeps sp -/
def GFn (P : Program) (w : World) (K : Fg) (mg : Str → Option Value) (base : Heap) (k : Nat) (x : Str) (n : Nat) (sp : DSp) : Prop :=
  ∃ f fd ps, FnD P w K mg base CX0 k f fd ps sp ∧ mg x = some (.ref f) ∧ PySem.W.keepIn K (.ref f) = true ∧ ps.length = n ∧ Binds K fd ps []
/-- a method of the class at C -/
def GMt (P : Program) (w : World) (K : Fg) (mg : Str → Option Value) (base : Heap) (k : Nat) (C : Addr) (m : Str) (n : Nat) (sp : DSp) : Prop :=
  ∃ f fd ps, FnD P w K mg base CX0 k f fd ps sp ∧ Meth K C m f ∧ ps.length = n + 1 ∧ Binds K fd ps []
/-- the class's making, by n values and keywords ks -/
def GMk (P : Program) (w : World) (K : Fg) (mg : Str → Option Value) (base : Heap) (k : Nat) (x : Str) (C : Addr) (n : Nat) (ks : List Str) (gD : List D → List D → List D) (sp : DSp) : Prop :=
  ∃ f fd ps g gV, FnD P w K mg base CX0 k f fd ps sp ∧ Mk K C f ∧ mg x = some (.ref C) ∧ KBn K fd ps (n + 1) ks g gV ∧ KBd gV gD
/-- f(..) -/
def dFn (sp : DSp) (t : TDA) : TDE := fun δ h R => t δ h fun ds h1 => sp ds h1 R NoX
/-- o.m(..) -/
def dMt (C : Addr) (mn : Str) (sp : DSp) (ta : TDE) (t : TDA) : TDE := fun δ h R => ta δ h fun x h1 => ∃ fs, insv h1 x = some (C, fs) ∧ fs.lookup mn = none ∧ t δ h1 fun ds h2 => sp (x :: ds) h2 R NoX
section
variable {X : Cx} {k n : Nat} {C : Addr} {x m : Str} {ks : List Str} {sp : DSp} {p pos apos : Pos} {e o : Expr} {es : List Expr} {kws : List Keyword} {t tk : TDA} {ta : TDE} {gD : List D → List D → List D}
theorem d_fn (G : GFn X.prog X.w X.K X.mg X.base k x n sp) (hr : Room k X.A) (gd : X.A.guards = some []) (hgl : Gl X x) (ha : DA X (e :: es) t)
    (hdb : (x == ("__debug__" : Str)) = false := by decide) (he : starEach (e :: es) X.env = (false, eval e X.env) :: starEach es X.env := by rfl) (hpl : (backTo pos (starEach es X.env)).any (·.1) = false := by rfl) :
    DE X (.Call (.Name x p) (e :: es) [] pos) (dFn sp t) := by
  obtain ⟨f, fd, ps, F, hm, hk, hn, hb⟩ := G
  refine ⟨fun pins s σ H Q J h => ?_⟩
  obtain ⟨I, δ, h0, R, sr, hr0, ht, go⟩ := h
  have q : upA X.K t σ H fun vs H1 => upSp X.K sp vs H1 Q E0 :=
    ⟨I, δ, h0, _, sr, hr0, ht, fun ds h1 I1 H1 vs hR s1 hr1 rs => ⟨I1, ds, h1, R, NoX, hr1, rs, hR, go.after s1, GoX.no⟩⟩
  refine wpAny_Call_Name_kw (ld_glob J hgl hm ?_ hdb)
  refine PySem.W.callWith_K (h₀ := X.base) J.ok.mod.kin hk (thn (ha.run pos pins s σ H _ J q) ?_) he hpl
  rintro us s1 ⟨vs, H1, J1, r, q1⟩
  refine ⟨J1.kIn, ?_⟩
  have l1 := F.len _ _ _ _ q1
  exact run_g (ks := []) (ws := []) (zs := []) F hr gd (kbn_of (n := n) hb .nil (by rw [hn]; rfl)) pass0 J1 r .nil (l1.trans hn) rfl (by rw [List.append_nil]; exact q1)
theorem d_fn0 (G : GFn X.prog X.w X.K X.mg X.base k x 0 sp) (hr : Room k X.A) (gd : X.A.guards = some []) (hgl : Gl X x) (hdb : (x == ("__debug__" : Str)) = false := by decide) :
    DE X (.Call (.Name x p) [] [] pos) (dFn sp dNil) := by
  obtain ⟨f, fd, ps, F, hm, hk, hn, hb⟩ := G
  refine ⟨fun pins s σ H Q J h => ?_⟩
  obtain ⟨I, δ, h0, R, sr, hr0, ht, go⟩ := h
  refine wpAny_Call_Name_kw (ld_glob J hgl hm ?_ hdb)
  refine PySem.W.callWith_K0 J.kIn hk ?_
  exact run_g (us := []) (vs := []) (ks := []) (ws := []) (zs := []) F hr gd (kbn_of (n := 0) hb .nil (by rw [hn]; rfl)) pass0 J .nil .nil rfl rfl ⟨I, [], h0, R, NoX, hr0, .nil, ht, go, GoX.no⟩
theorem d_mt {pl : Sem Bool} (ho : DE X o ta) (c : Cls X.K C) (G : GMt X.prog X.w X.K X.mg X.base k C m n sp) (hr : Room k X.A) (gd : X.A.guards = some []) (ha : DA X (e :: es) t)
    (hst : starEach (e :: es) X.env = (false, eval e X.env) :: starEach es X.env := by rfl) (hpl : (backTo pos (starEach es X.env)).any (·.1) = false := by rfl)
    (ht : eval (.Call (.Attribute o m apos) (e :: es) [] pos) X.env = (do
      let ov ← eval o X.env
      standAt apos.atName
      let (f, first) ← holding [ov] (getMethod ov m pl)
      callWith pos f first (backTo pos (starEach (e :: es) X.env)) (backToKw pos (keywordEach [] X.env))) := by rfl) :
    DE X (.Call (.Attribute o m apos) (e :: es) [] pos) (dMt C m sp ta t) := by
  obtain ⟨f, fd, ps, F, hm, hn, hb⟩ := G
  refine ⟨fun pins s σ H Q J ⟨I, δ, h, R, sr, hr0, hta, go⟩ => ?_⟩
  have q : up X.K ta σ H fun x H1 => ∃ a dx ws, x = .ref a ∧ H1 a = some (.ins C dx ws) ∧ ws.lookup m = none ∧ upA X.K t σ H1 fun vs H2 => upSp X.K sp (x :: vs) H2 Q E0 := by
    refine ⟨I, δ, h, _, sr, hr0, hta, fun d h1 I1 H1 v ⟨fs, e1, e2, q1⟩ s1 hr1 rd => ?_⟩
    obtain ⟨a, dx, ws, rfl, q2, l1, _⟩ := insv_ok hr1 rd e1
    refine ⟨a, dx, ws, rfl, q2, l1 _ e2, I1, δ, h1, _, sr.step s1, hr1, q1, fun ds h2 I2 H2 vs hs s2 hr2 rs => ?_⟩
    exact ⟨I2, d :: ds, h2, R, NoX, hr2, .cons (rd.step s2) rs, hs, go.after (s1.trans s2), GoX.no⟩
  refine PySem.W.methodCall_KW (pl := pl) (thn (ho.run pins s σ H _ J q) ?_) ht
  rintro u s1 ⟨x, H1, J1, rx, a, dx, ws, rfl, ea, l, q1⟩
  obtain rfl : u = Value.ref a := rx
  refine getmeth_ok J1 ea c hm l ?_
  refine PySem.W.callWith_K (first := [.ref a]) (h₀ := X.base) J.ok.mod.kin hm.kp (thn (ha.run pos pins s1 σ H1 _ J1 q1) ?_) hst hpl
  rintro us s2 ⟨vs, H2, J2, r, q2⟩
  refine ⟨J2.kIn, ?_⟩
  have l1 := F.len _ _ _ _ q2
  exact run_g (us := .ref a :: us) (vs := .ref a :: vs) (ks := []) (ws := []) (zs := []) F hr gd (kbn_of (n := n + 1) hb .nil (by rw [hn]; rfl)) pass0 J2 (.cons rfl r) .nil (l1.trans hn) rfl (by rw [List.append_nil]; exact q2)
theorem d_mt0 {pl : Sem Bool} (ho : DE X o ta) (c : Cls X.K C) (G : GMt X.prog X.w X.K X.mg X.base k C m 0 sp) (hr : Room k X.A) (gd : X.A.guards = some [])
    (ht : eval (.Call (.Attribute o m apos) [] [] pos) X.env = (do
      let ov ← eval o X.env
      standAt apos.atName
      let (f, first) ← holding [ov] (getMethod ov m pl)
      callWith pos f first (backTo pos (starEach [] X.env)) (backToKw pos (keywordEach [] X.env))) := by rfl) :
    DE X (.Call (.Attribute o m apos) [] [] pos) (dMt C m sp ta dNil) := by
  obtain ⟨f, fd, ps, F, hm, hn, hb⟩ := G
  refine ⟨fun pins s σ H Q J ⟨I, δ, h, R, sr, hr0, hta, go⟩ => ?_⟩
  have q : up X.K ta σ H fun x H1 => ∃ a dx ws, x = .ref a ∧ H1 a = some (.ins C dx ws) ∧ ws.lookup m = none ∧ upSp X.K sp [x] H1 Q E0 := by
    refine ⟨I, δ, h, _, sr, hr0, hta, fun d h1 I1 H1 v ⟨fs, e1, e2, hs⟩ s1 hr1 rd => ?_⟩
    obtain ⟨a, dx, ws, rfl, q2, l1, _⟩ := insv_ok hr1 rd e1
    exact ⟨a, dx, ws, rfl, q2, l1 _ e2, I1, [d], h1, R, NoX, hr1, .cons rd .nil, hs, go.after s1, GoX.no⟩
  refine PySem.W.methodCall_KW (pl := pl) (thn (ho.run pins s σ H _ J q) ?_) ht
  rintro u s1 ⟨x, H1, J1, rx, a, dx, ws, rfl, ea, l, q1⟩
  obtain rfl : u = Value.ref a := rx
  refine getmeth_ok J1 ea c hm l ?_
  refine PySem.W.callWith_K0 (first := [.ref a]) J1.kIn hm.kp ?_
  exact run_g (us := [.ref a]) (vs := [.ref a]) (ks := []) (ws := []) (zs := []) F hr gd (kbn_of (n := 1) hb .nil (by rw [hn]; rfl)) pass0 J1 (.cons rfl .nil) .nil rfl rfl (by rw [List.append_nil]; exact q1)
/-- C(..), an object of ours -/
theorem d_mk (G : GMk X.prog X.w X.K X.mg X.base k x C n [] gD sp) (hr : Room (k + 1) X.A) (gd : X.A.guards = some []) (hgl : Gl X x) (ha : DA X (e :: es) t)
    (hdb : (x == ("__debug__" : Str)) = false := by decide) (he : starEach (e :: es) X.env = (false, eval e X.env) :: starEach es X.env := by rfl) (hpl : (backTo pos (starEach es X.env)).any (·.1) = false := by rfl) :
    DE X (.Call (.Name x p) (e :: es) [] pos) (dMake C n 0 sp gD NoX t dNil) := by
  obtain ⟨f, fd, ps, g, gV, F, M, hm, hb, hg⟩ := G
  exact d_make (E := E0) M F hr gd hgl hm hg pass0 (fun _ _ => GoX.no) hb ha hdb he hpl
theorem d_mkV (G : GMk X.prog X.w X.K X.mg X.base k x C n [] gD sp) (hr : Room (k + 1) X.A) (gd : X.A.guards = some []) (hgl : Gl X x) (ha : DA X (e :: es) t)
    (hdb : (x == ("__debug__" : Str)) = false := by decide) (he : starEach (e :: es) X.env = (false, eval e X.env) :: starEach es X.env := by rfl) (hpl : (backTo pos (starEach es X.env)).any (·.1) = false := by rfl) :
    DE X (.Call (.Name x p) (e :: es) [] pos) (dMakeV C n 0 sp gD NoX t dNil) := by
  obtain ⟨f, fd, ps, g, gV, F, M, hm, hb, hg⟩ := G
  exact d_makeV (E := E0) M F hr gd hgl hm hg pass0 (fun _ _ => GoX.no) hb ha hdb he hpl
theorem d_mkK (G : GMk X.prog X.w X.K X.mg X.base k x C n ks gD sp) (hr : Room (k + 1) X.A) (gd : X.A.guards = some []) (hgl : Gl X x) (ha : DA X (e :: es) t) (hkw : DKw X kws tk)
    (hall : (backToKw pos (keywordEach kws X.env)).all (·.1.isSome) = true := by rfl) (hks : (backToKw pos (keywordEach kws X.env)).filterMap (·.1) = ks := by rfl)
    (hdb : (x == ("__debug__" : Str)) = false := by decide) (he : starEach (e :: es) X.env = (false, eval e X.env) :: starEach es X.env := by rfl)
    (hpl : ((backTo pos (starEach (e :: es) X.env)).any (·.1) || (backToKw pos (keywordEach kws X.env)).any (·.1.isNone)) = false := by rfl) :
    DE X (.Call (.Name x p) (e :: es) kws pos) (dMake C n ks.length sp gD NoX t tk) := by
  obtain ⟨f, fd, ps, g, gV, F, M, hm, hb, hg⟩ := G
  exact d_makeK (E := E0) M F hr gd hgl hm hg pass0 (fun _ _ => GoX.no) hb ha hkw hall hks hdb he hpl
theorem d_mkKV (G : GMk X.prog X.w X.K X.mg X.base k x C n ks gD sp) (hr : Room (k + 1) X.A) (gd : X.A.guards = some []) (hgl : Gl X x) (ha : DA X (e :: es) t) (hkw : DKw X kws tk)
    (hall : (backToKw pos (keywordEach kws X.env)).all (·.1.isSome) = true := by rfl) (hks : (backToKw pos (keywordEach kws X.env)).filterMap (·.1) = ks := by rfl)
    (hdb : (x == ("__debug__" : Str)) = false := by decide) (he : starEach (e :: es) X.env = (false, eval e X.env) :: starEach es X.env := by rfl)
    (hpl : ((backTo pos (starEach (e :: es) X.env)).any (·.1) || (backToKw pos (keywordEach kws X.env)).any (·.1.isNone)) = false := by rfl) :
    DE X (.Call (.Name x p) (e :: es) kws pos) (dMakeV C n ks.length sp gD NoX t tk) := by
  obtain ⟨f, fd, ps, g, gV, F, M, hm, hb, hg⟩ := G
  exact d_makeKV (E := E0) M F hr gd hgl hm hg pass0 (fun _ _ => GoX.no) hb ha hkw hall hks hdb he hpl
end

/-! ### more statements -/
section
variable {X : Cx} {pos : Pos}
/-- o.f as a target -/
def gFld (C : Addr) (fn : Str) (ta : TDE) : TDG := fun d δ h R => ta δ h fun x h1 => ∃ n fs, x = .ref n ∧ h1[n]? = some (.ins C fs) ∧ fs.length < 1000 ∧ R δ (h1.set n (.ins C (putD fn d fs)))
theorem g_fld {o : Expr} {m : Str} {C : Addr} {ta : TDE} (ho : DE X o ta) (c : Cls X.K C) (hn : NoAttr X.K C m)
    (ha : ∀ v, assign (.Attribute o m pos) X.env v = (do
      let ov ← holding [v] (eval o X.env)
      standAt pos.atName
      holding [v, ov] (setAttr ov m v)
      release [v, ov] []) := by intro _; rfl) : DG X (.Attribute o m pos) (gFld C m ta) := by
  refine ⟨fun pins s σ H v u Q J rv ⟨I, d, δ, h, R, sr, hr, rd, q, g⟩ => ?_⟩
  rw [ha]
  have q1 : up X.K ta σ H fun x H1 => ∃ a dx fs, x = .ref a ∧ H1 a = some (.ins C dx fs) ∧ fs.length < 1000 ∧ Q σ (upd H1 a (.ins C dx (putF m v fs))) := by
    refine ⟨I, δ, h, _, sr, hr, q, fun x h1 I1 H1 w ⟨n, fs, e1, e2, e3, q2⟩ s1 hr1 rx => ?_⟩
    subst e1
    obtain ⟨a, rfl, qa⟩ := rx.refv
    obtain ⟨dx, ws, q3, hk, r3⟩ := hr1.ob n a _ qa e2
    have hl : ws.length = fs.length := by
      have := congrArg List.length hk
      simpa using this
    refine ⟨a, dx, ws, rfl, q3, by rw [hl]; exact e3, ?_⟩
    have m' : a ∈ I1 := List.mem_of_getElem? qa
    have s3 : Stp I1 H1 I1 (upd H1 a (.ins C dx (putF m v ws))) := Stp.put m' ⟨_, q3⟩
    have pr := putD_rd (f := m) (rd.step s1) hk r3
    exact g δ _ I1 _ σ q2 (s1.trans s3) (hr1.put qa ⟨dx, _, upd_same, pr.1, pr.2.step s3⟩) (sr.step (s1.trans s3))
  refine wpAny_bind (wpAny_holding (thn (ho.run pins s σ H _ J q1) ?_))
  rintro ov s1 ⟨x, H1, J1, rx, a, dx, fs, rfl, ea, l, q2⟩
  obtain rfl : ov = Value.ref a := rx
  refine wpAny_bind (wpAny_standAt (wpAny_bind (wpAny_holding ?_)))
  exact setattr_ok J1 ea c hn l rv fun s3 J3 => wpAny_release ⟨σ, _, J3, q2⟩
/-- t1 = t2 = e -/
def dAsg2 (te : TDE) (g1 g2 : TDG) : TDS := fun E δ h => te δ h fun x h1 => g1 x δ h1 fun δ2 h2 => g2 x δ2 h2 E.nx
/-- name = [..], the name a local -/
theorem s_setLc {i : Nat} {y : Str} {py : Pos} {elt tg iter : Expr} {ifs : List Expr} {scope : Scope} {own : List (Str × Nat)} {spos : Pos} {si : TDI} {c : CTg} {tt : TDT} {te : TDE} (hc : X.calm = true) (hN : X.N.Nodup) (hy : X.N[i]? = some y) (hyl : X.env.scope.names.lookup y = some .local)
    (hsw : swapsWith (.ListComp elt [⟨tg, iter, ifs, 0⟩] scope pos) (some (.Name y py)) spos.line X.env = pure true) (hi : DI X tg iter si) (ok : BlkOk X.N X.env.scope scope own) (hv : ∀ i ∈ c.slots, i ∈ own.map (·.2))
    (hg : ∀ (s : Shared) (H : Hp) (C : Addr) (cl : List (Str × Addr)) (fp : List Addr), PG (X.blk s H scope (compEnvC scope cl C X.env) fp) tg (c.g X.K)) (ht : ∀ (s : Shared) (H : Hp) (C : Addr) (cl : List (Str × Addr)) (fp : List Addr), DTs (X.blk s H scope (compEnvC scope cl C X.env) fp) ifs tt)
    (he : ∀ (s : Shared) (H : Hp) (C : Addr) (cl : List (Str × Addr)) (fp : List Addr), DE (X.blk s H scope (compEnvC scope cl C X.env) fp) elt te) (hs : ∀ x, foldedSetIterable iter X.env x = pure x := by intro _; rfl) :
    DSt X (.Assign [.Name y py] (.ListComp elt [⟨tg, iter, ifs, 0⟩] scope pos) spos) (dAsg (dLc si c tt te (own.map (·.2))) (gN i)) :=
  PS.imp (ps_setLc hc hN hy hyl hsw hi ok hg ht he hs) fun E σ H ⟨I, δ, h, ED, sr, hr, q, g⟩ =>
    lc_up (Q := fun v H1 => E.nx (σ.set i (some v)) H1) hv fin_val ⟨I, δ, h, fun d h1 => ED.nx (δ.set i (some d)) h1, sr, hr, q, fun d h1 I1 H1 v q1 s1 hr1 rd => g.nx _ h1 I1 H1 _ q1 s1 hr1 ((sr.step s1).set i rd)⟩
theorem s_setLcN {i : Nat} {y : Str} {py : Pos} {elt tg iter : Expr} {ifs : List Expr} {scope : Scope} {own : List (Str × Nat)} {spos : Pos} {si : TDI} {c : CTg} {tt : TDT} {te : TDE} (hc : X.calm = true) (hN : X.N.Nodup) (hy : X.N[i]? = some y) (hyl : X.env.scope.names.lookup y = some .local)
    (hsw : swapsWith (.ListComp elt [⟨tg, iter, ifs, 0⟩] scope pos) (some (.Name y py)) spos.line X.env = pure true) (hi : DI X tg iter si) (ok : BlkOk X.N X.env.scope scope own) (hv : ∀ i ∈ c.slots, i ∈ own.map (·.2))
    (hg : ∀ (s : Shared) (H : Hp) (C : Addr) (cl : List (Str × Addr)) (fp : List Addr), PG (X.blk s H scope (compEnvC scope cl C X.env) fp) tg (c.g X.K)) (ht : ∀ (s : Shared) (H : Hp) (C : Addr) (cl : List (Str × Addr)) (fp : List Addr), DTs (X.blk s H scope (compEnvC scope cl C X.env) fp) ifs tt)
    (he : ∀ (s : Shared) (H : Hp) (C : Addr) (cl : List (Str × Addr)) (fp : List Addr), DE (X.blk s H scope (compEnvC scope cl C X.env) fp) elt te) (hs : ∀ x, foldedSetIterable iter X.env x = pure x := by intro _; rfl) :
    DSt X (.Assign [.Name y py] (.ListComp elt [⟨tg, iter, ifs, 0⟩] scope pos) spos) (dAsg (dLcN si c tt te (own.map (·.2))) (gN i)) :=
  PS.imp (ps_setLc hc hN hy hyl hsw hi ok hg ht he hs) fun E σ H ⟨I, δ, h, ED, sr, hr, q, g⟩ =>
    lc_up (Q := fun v H1 => E.nx (σ.set i (some v)) H1) hv fin_new ⟨I, δ, h, fun d h1 => ED.nx (δ.set i (some d)) h1, sr, hr, q, fun d h1 I1 H1 v q1 s1 hr1 rd => g.nx _ h1 I1 H1 _ q1 s1 hr1 ((sr.step s1).set i rd)⟩
theorem s_asg2 {t1 t2 e : Expr} {te : TDE} {g1 g2 : TDG} (he : DE X e te) (h1 : DG X t1 g1) (h2 : DG X t2 g2) (ha : (assignEach [t1, t2] X.env).map (·.2) = [assign t1 X.env, assign t2 X.env] := by rfl) (hw : swappedStores [t1, t2] e X.env = pure none := by rfl) :
    DSt X (.Assign [t1, t2] e pos) (dAsg2 te g1 g2) :=
  PS.imp (ps_asg2 he h1 h2 ha hw) fun E σ H ⟨I, δ, h, ED, sr, hr, q, g⟩ =>
    ⟨I, δ, h, _, sr, hr, q, fun d h1 I1 H1 v q1 s1 hr1 rd => ⟨I1, d, δ, h1, _, sr.step s1, hr1, rd, q1, fun δ2 h2 I2 H2 σ2 q2 s2 hr2 sr2 => ⟨I2, d, δ2, h2, ED.nx, sr2, hr2, rd.step s2, q2, g.nx.after (s1.trans s2)⟩⟩⟩
end
/-! ### what Python's names hold -/
theorem b_len : bootBuiltins "len" = some (.builtin "len") := by decide +kernel
theorem b_min : bootBuiltins "min" = some (.builtin "min") := by decide +kernel
theorem b_max : bootBuiltins "max" = some (.builtin "max") := by decide +kernel
theorem b_repr : bootBuiltins "repr" = some (.builtin "repr") := by decide +kernel
theorem b_sum : bootBuiltins "sum" = some (.builtin "sum") := by decide +kernel
theorem b_all : bootBuiltins "all" = some (.builtin "all") := by decide +kernel
theorem b_any : bootBuiltins "any" = some (.builtin "any") := by decide +kernel
theorem b_sorted : bootBuiltins "sorted" = some (.builtin "sorted") := by decide +kernel
theorem b_isinstance : bootBuiltins "isinstance" = some (.builtin "isinstance") := by decide +kernel
theorem b_int : bootBuiltins "int" = some (.type "int") := by decide +kernel
theorem b_bool : bootBuiltins "bool" = some (.type "bool") := by decide +kernel
theorem b_str : bootBuiltins "str" = some (.type "str") := by decide +kernel
theorem b_tuple : bootBuiltins "tuple" = some (.type "tuple") := by decide +kernel
theorem b_list : bootBuiltins "list" = some (.type "list") := by decide +kernel
theorem b_dict : bootBuiltins "dict" = some (.type "dict") := by decide +kernel
end FL
/-! Readings made plain. -/
namespace FL
open PySem L2

theorem at0 {a : D} {r : List D} : atI (a :: r) 0 = some a := by
  unfold atI ixN
  rw [if_pos (Int.le_refl 0), if_pos (by simp only [List.length_cons]; omega)]
  rfl
theorem at1 {a b : D} {r : List D} : atI (a :: b :: r) 1 = some b := by
  unfold atI ixN
  rw [if_pos (by omega), if_pos (by simp only [List.length_cons]; omega)]
  rfl
theorem at2 {a b c : D} {r : List D} : atI (a :: b :: c :: r) 2 = some c := by
  unfold atI ixN
  rw [if_pos (by omega), if_pos (by simp only [List.length_cons]; omega)]
  rfl
theorem at3 {a b c d : D} {r : List D} : atI (a :: b :: c :: d :: r) 3 = some d := by
  unfold atI ixN
  rw [if_pos (by omega), if_pos (by simp only [List.length_cons]; omega)]
  rfl
theorem at4 {a b c d e : D} {r : List D} : atI (a :: b :: c :: d :: e :: r) 4 = some e := by
  unfold atI ixN
  rw [if_pos (by omega), if_pos (by simp only [List.length_cons]; omega)]
  rfl
theorem ix_in {n : Nat} {i : Int} (h0 : 0 ≤ i) (h1 : i < n) : ixN n i = some i.toNat := by
  unfold ixN
  rw [if_pos h0, if_pos h1]
/-- an index within -/
theorem at_in {ds : List D} {i : Int} (h0 : 0 ≤ i) (h1 : i < ds.length) : ∃ d, atI ds i = some d ∧ d ∈ ds := by
  unfold atI
  rw [ix_in h0 h1]
  have hl : i.toNat < ds.length := by omega
  exact ⟨ds[i.toNat], List.getElem?_eq_getElem hl, List.getElem_mem hl⟩
theorem ix0 {n : Nat} : ixN (n + 1) 0 = some 0 := ix_in (Int.le_refl 0) (by omega)
theorem ix1 {n : Nat} : ixN (n + 2) 1 = some 1 := ix_in (by omega) (by omega)
theorem ix2 {n : Nat} : ixN (n + 3) 2 = some 2 := ix_in (by omega) (by omega)
theorem mulR {i j : Int} (h : -(2 ^ 64) < j ∧ j < 2 ^ 64) : MulOk i j := Or.inl (Or.inr h)
theorem mulL {i j : Int} (h : -(2 ^ 64) < i ∧ i < 2 ^ 64) : MulOk i j := Or.inl (Or.inl h)
theorem divOk {i j : Int} (h0 : 0 < j) (h1 : j < 2 ^ 64) : CDivW i j := by
  refine ⟨h0, ?_⟩
  have h2 : j.natAbs < 2 ^ 64 := by omega
  have : j.natAbs.log2 < 64 := by
    by_cases z : j.natAbs = 0
    · rw [z]
      decide
    · exact (Nat.log2_lt z).mpr h2
  omega
theorem mod_range {x w : Int} (h : 0 < w) : 0 ≤ x % w ∧ x % w < w := ⟨Int.emod_nonneg x (by omega), Int.emod_lt_of_pos x h⟩

/-! ### steps, from the outside -/
section
variable {E : DEnds} {δ : DS} {h : OS} {R : DK} {t u : TDS} {te ta tb tc : TDE} {tt tu : TDT} {f f' : F2} {g g2 : TDG} {td td2 : TDA} {d : D} {i n : Nat} {RB : Bool → OS → Prop} {RA : List D → OS → Prop} {RN : DS → OS → Prop}
theorem r_seq (q : t { E with nx := u E } δ h) : dSeq t u E δ h := q
theorem r_next (q : E.nx δ h) : dNext E δ h := q
theorem r_asg (q : te δ h fun x h1 => g x δ h1 E.nx) : dAsg te g E δ h := q
theorem r_asg2 (q : te δ h fun x h1 => g x δ h1 fun δ2 h2 => g2 x δ2 h2 E.nx) : dAsg2 te g g2 E δ h := q
theorem r_gN (q : RN (δ.set i (some d)) h) : gN i d δ h RN := q
theorem r_gT {ts : TDGs} {ds : List D} (hl : ds.length = n) (q : ts ds δ h RN) : gT n ts (.tup ds) δ h RN := ⟨ds, rfl, hl, q⟩
theorem r_gsNil (q : RN δ h) : gsNil [] δ h RN := ⟨rfl, q⟩
theorem r_gsCons {tg : TDG} {ts : TDGs} {ds : List D} (q : tg d δ h fun δ' h' => ts ds δ' h' RN) : gsCons tg ts (d :: ds) δ h RN := ⟨d, ds, rfl, q⟩
theorem r_drop (q : te δ h fun _ h1 => E.nx δ h1) : dDrop te E δ h := q
theorem r_ret (q : te δ h E.rt) : dRet te E δ h := q
theorem r_retN (q : E.rt .non h) : dRetN E δ h := q
theorem r_ifS (q : tt δ h fun b h1 => if b = true then t E δ h1 else u E δ h1) : dIfS tt t u E δ h := q
theorem r_par {i j : Nat} (q : td δ h fun ds h1 => ∃ x y, ds = [x, y] ∧ E.nx ((δ.set i (some x)).set j (some y)) h1) : dPar i j td E δ h := q
theorem r_par2 {x y : D} {P : D → D → Prop} (q : P x y) : ∃ a b, [x, y] = [a, b] ∧ P a b := ⟨x, y, rfl, q⟩
theorem r_augI {op : Int → Int → Int} {a : Int} (e : δ[i]? = some (some (.int a))) (q : te δ h fun y h1 => ∃ b, y = .int b ∧ E.nx (δ.set i (some (.int (op a b)))) h1) : dAugI op i te E δ h := ⟨a, e, q⟩
theorem r_isI {x : Int} {P : Int → Prop} (q : P x) : ∃ b, D.int x = .int b ∧ P b := ⟨x, rfl, q⟩
theorem r_dB (q : te δ h fun x h1 => ∃ c, x = .bl c ∧ RB c h1) : dB te δ h RB := q
theorem r_bl {b : Bool} {P : Bool → Prop} (q : P b) : ∃ c, D.bl b = .bl c ∧ P c := ⟨b, rfl, q⟩
theorem r_and (q : tt δ h fun c h1 => if c = true then tu δ h1 RB else RB false h1) : dAnd tt tu δ h RB := q
theorem r_or (q : tt δ h fun c h1 => if c = true then RB true h1 else tu δ h1 RB) : dOr tt tu δ h RB := q
theorem r_not (q : tt δ h fun c h1 => RB (!c) h1) : dNot tt δ h RB := q
theorem r_ite {p : Prop} {_ : Decidable p} {A B : Prop} (h1 : p → A) (h2 : ¬ p → B) : if decide p = true then A else B := by
  by_cases z : p
  · rw [if_pos (decide_eq_true z)]
    exact h1 z
  · rw [if_neg (by rw [decide_eq_true_iff]; exact z)]
    exact h2 z
theorem r_iteN {p : Prop} {_ : Decidable p} {A B : Prop} (h1 : ¬ p → A) (h2 : p → B) : if (!decide p) = true then A else B := by
  by_cases z : p
  · rw [if_neg (by simp [z])]
    exact h2 z
  · rw [if_pos (by simp [z])]
    exact h1 z
theorem r_if {b : Bool} {A B : Prop} (h1 : b = true → A) (h2 : b = false → B) : if b = true then A else B := by
  cases b with
  | true => exact h1 rfl
  | false => exact h2 rfl
theorem r_T {A B : Prop} (q : A) : if true = true then A else B := q
theorem r_F {A B : Prop} (q : B) : if false = true then A else B := q
theorem r_op (q : ta δ h fun x h1 => tb δ h1 fun y h2 => f x y h2 R) : dOp f ta tb δ h R := q
theorem r_un {f1 : F1} (q : ta δ h fun x h1 => f1 x h1 R) : dUn f1 ta δ h R := q
theorem r_var (e : δ[i]? = some (some d)) (q : R d h) : dVar i δ h R := ⟨d, e, q⟩
theorem r_c (q : R d h) : dC d δ h R := q
theorem r_ifE (q : tt δ h fun c h1 => if c = true then ta δ h1 R else tb δ h1 R) : dIf tt ta tb δ h R := q
theorem r_andV (q : ta δ h fun x h1 => ∃ c, x = .bl c ∧ if c = true then tb δ h1 R else R (.bl false) h1) : dAndV ta tb δ h R := q
theorem r_orV (q : ta δ h fun x h1 => ∃ c, x = .bl c ∧ if c = true then R (.bl true) h1 else tb δ h1 R) : dOrV ta tb δ h R := q
theorem r_notV (q : ta δ h fun x h1 => ∃ c, x = .bl c ∧ R (.bl (!c)) h1) : dNotV ta δ h R := q
theorem r_chain (q : ta δ h fun x h1 => tb δ h1 fun y h2 => f x y h2 fun z h3 => ∃ k, z = .bl k ∧ (if k = true then tc δ h3 fun w h4 => f' y w h4 R else R (.bl false) h3)) : dChain f f' ta tb tc δ h R := q
theorem r_nil (q : RA [] h) : dNil δ h RA := q
theorem r_cons (q : te δ h fun x h1 => td δ h1 fun xs h2 => RA (x :: xs) h2) : dCons te td δ h RA := q
theorem r_tup (q : td δ h fun ds h1 => ds.length ≤ sizeLine ∧ R (.tup ds) h1) : dTup td δ h R := q
theorem r_lst (q : td δ h fun ds h1 => ds.length ≤ sizeLine ∧ R (.lst ds) h1) : dLst td δ h R := q
theorem r_lstN (q : td δ h fun ds h1 => ds.length ≤ sizeLine ∧ R (.ref h1.length) (h1 ++ [.lst ds])) : dLstN td δ h R := q
theorem r_cb {fa : FA} (q : td δ h fun ds h1 => fa ds h1 R) : dCB fa td δ h R := q
theorem r_fn {sp : DSp} (q : td δ h fun ds h1 => sp ds h1 R NoX) : dFn sp td δ h R := q
theorem r_fld {C : Addr} {fn : Str} (q : ta δ h fun x h1 => ∃ fs d, insv h1 x = some (C, fs) ∧ fs.lookup fn = some d ∧ R d h1) : dFld C fn ta δ h R := q
theorem r_bm {T : String} {fm : FM} (q : ta δ h fun x h1 => tyD T h1 x ∧ td δ h1 fun ds h2 => fm x ds h2 R) : dBM T fm ta td δ h R := q
theorem r_sl {f3 : D → Option Int → Option Int → OS → DK → Prop} {tl th : TDO} (q : ta δ h fun x h1 => tl δ h1 fun l h2 => th δ h2 fun w h3 => f3 x l w h3 R) : dSl f3 ta tl th δ h R := q
theorem r_noPart {RO' : Option Int → OS → Prop} (q : RO' none h) : dNoPart δ h RO' := q
theorem r_part {RO' : Option Int → OS → Prop} (q : te δ h fun x h1 => ∃ i, x = .int i ∧ RO' (some i) h1) : dPart te δ h RO' := q
/-- by values -/
theorem r_addI {a b : Int} (q : R (.int (a + b)) h) : fAdd (.int a) (.int b) h R := q
theorem r_addS {a b : Str} (c : a.length + b.length ≤ sizeLine) (q : R (.str (a ++ b)) h) : fAdd (.str a) (.str b) h R := ⟨c, q⟩
theorem r_addT {a b : List D} (c : a.length + b.length ≤ sizeLine) (q : R (.tup (a ++ b)) h) : fAdd (.tup a) (.tup b) h R := ⟨c, q⟩
theorem r_addL {a b : List D} (c : a.length + b.length ≤ sizeLine) (q : R (.lst (a ++ b)) h) : fAdd (.lst a) (.lst b) h R := ⟨a, b, rfl, rfl, c, q⟩
theorem r_subI {a b : Int} (q : R (.int (a - b)) h) : fSub (.int a) (.int b) h R := q
theorem r_mulI {a b : Int} (c : MulOk a b) (q : R (.int (a * b)) h) : fMul (.int a) (.int b) h R := ⟨c, q⟩
theorem r_divI {a b : Int} (c : CDivW a b) (q : R (.int (a / b)) h) : fDiv (.int a) (.int b) h R := ⟨c, q⟩
theorem r_modI {a b : Int} (c : 0 < b) (q : R (.int (a % b)) h) : fMod (.int a) (.int b) h R := ⟨c, q⟩
theorem r_powI {a b : Int} (c : CPow a b) (q : R (.int (a ^ b.toNat)) h) : fPow (.int a) (.int b) h R := ⟨c, q⟩
theorem r_negI {a : Int} (q : R (.int (-a)) h) : fNeg (.int a) h R := q
theorem r_ltI {a b : Int} (q : R (.bl (decide (a < b))) h) : fLt (.int a) (.int b) h R := q
theorem r_ltS {a b : Str} (q : R (.bl (decide (a.cps.toList < b.cps.toList))) h) : fLt (.str a) (.str b) h R := q
theorem r_leI {a b : Int} (q : R (.bl (decide (a ≤ b))) h) : fLe (.int a) (.int b) h R := q
theorem r_gtI {a b : Int} (q : R (.bl (decide (b < a))) h) : fGt (.int a) (.int b) h R := q
theorem r_geI {a b : Int} (q : R (.bl (decide (b ≤ a))) h) : fGe (.int a) (.int b) h R := q
theorem r_eqI {a b : Int} (q : R (.bl (decide (a = b))) h) : fEq (.int a) (.int b) h R := q
theorem r_eqS {a b : Str} (q : R (.bl (decide (a = b))) h) : fEq (.str a) (.str b) h R := q
theorem r_eqB {a b : Bool} (q : R (.bl (decide (a = b))) h) : fEq (.bl a) (.bl b) h R := q
theorem r_neI {a b : Int} (q : R (.bl (!decide (a = b))) h) : fNe (.int a) (.int b) h R := q
theorem r_neS {a b : Str} (q : R (.bl (!decide (a = b))) h) : fNe (.str a) (.str b) h R := q
theorem r_neB {a b : Bool} (q : R (.bl (!decide (a = b))) h) : fNe (.bl a) (.bl b) h R := q
theorem r_ixR {ds : List D} {k : Int} (e : h[n]? = some (.lst ds)) (a : atI ds k = some d) (q : R d h) : fIx (.ref n) (.int k) h R := ⟨k, rfl, true, ds, d, by simp only [sqv, e], a, q⟩
theorem r_ixL {ds : List D} {k : Int} (a : atI ds k = some d) (q : R d h) : fIx (.lst ds) (.int k) h R := ⟨k, rfl, true, ds, d, rfl, a, q⟩
theorem r_ixT {ds : List D} {k : Int} (a : atI ds k = some d) (q : R d h) : fIx (.tup ds) (.int k) h R := ⟨k, rfl, false, ds, d, rfl, a, q⟩
theorem r_ixZ {ds : List D} {k : Int} (a : atI ds k = some d) (q : R d h) : fIx (.scr ds) (.int k) h R := ⟨k, rfl, true, ds, d, rfl, a, q⟩
theorem r_setL {RO' : OS → Prop} {ds : List D} {k : Int} {j : Nat} (e : h[n]? = some (.lst ds)) (a : ixN ds.length k = some j) (q : RO' (h.set n (.lst (ds.set j d)))) : fSetL (.ref n) (.int k) d h RO' := ⟨n, k, ds, j, rfl, rfl, e, a, q⟩
theorem r_subL (q : ta δ h fun o h1 => tb δ h1 fun k h2 => fSetL o k d h2 fun h3 => RN δ h3) : gSubL ta tb d δ h RN := q
theorem r_lenZ {ds : List D} (q : R (.int ds.length) h) : fLen [.scr ds] h R := ⟨_, rfl, true, ds, rfl, q⟩
theorem r_lenL {ds : List D} (q : R (.int ds.length) h) : fLen [.lst ds] h R := ⟨_, rfl, true, ds, rfl, q⟩
theorem r_lenT {ds : List D} (q : R (.int ds.length) h) : fLen [.tup ds] h R := ⟨_, rfl, false, ds, rfl, q⟩
theorem r_lenR {ds : List D} (e : h[n]? = some (.lst ds)) (q : R (.int ds.length) h) : fLen [.ref n] h R := ⟨_, rfl, true, ds, by simp only [sqv, e], q⟩
theorem r_lenS {z : Str} (c : z.length ≤ sizeLine) (q : R (.int z.length) h) : fLen [.str z] h R := ⟨_, rfl, c, q⟩
theorem r_min {a b : Int} (q : R (.int (if b < a then b else a)) h) : fMin2 [.int a, .int b] h R := ⟨a, b, rfl, q⟩
theorem r_max {a b : Int} (q : R (.int (if b > a then b else a)) h) : fMax2 [.int a, .int b] h R := ⟨a, b, rfl, q⟩
theorem r_intB {b : Bool} (q : R (.int (if b then 1 else 0)) h) : fInt [.bl b] h R := ⟨_, rfl, q⟩
theorem r_intI {a : Int} (q : R (.int a) h) : fInt [.int a] h R := ⟨_, rfl, q⟩
theorem r_boolI {a : Int} (q : R (.bl (a != 0)) h) : fBool [.int a] h R := ⟨_, rfl, q⟩
theorem r_boolB {b : Bool} (q : R (.bl b) h) : fBool [.bl b] h R := ⟨_, rfl, q⟩
theorem r_tupleL {ds : List D} (q : R (.tup ds) h) : fTuple [.lst ds] h R := ⟨_, true, ds, rfl, rfl, q⟩
theorem r_tupleR {ds : List D} (e : h[n]? = some (.lst ds)) (q : R (.tup ds) h) : fTuple [.ref n] h R := ⟨_, true, ds, rfl, by simp only [sqv, e], q⟩
theorem r_tupleT {ds : List D} (q : R (.tup ds) h) : fTuple [.tup ds] h R := ⟨_, false, ds, rfl, rfl, q⟩
theorem r_append {ds : List D} (e : h[n]? = some (.lst ds)) (c : ds.length < sizeLine) (q : R .non (h.set n (.lst (ds ++ [d])))) : mAppend (.ref n) [d] h R := ⟨n, d, ds, rfl, rfl, e, c, q⟩
theorem r_tyL {P : Prop} {ds : List D} (e : h[n]? = some (.lst ds)) (q : P) : tyD "list" h (.ref n) ∧ P := ⟨Or.inl ⟨rfl, ds, e⟩, q⟩
theorem r_tyS {P : Prop} {z : Str} (q : P) : tyD "str" h (.str z) ∧ P := ⟨rfl, q⟩
theorem r_sz {m : Nat} {P : Prop} (c : m ≤ sizeLine) (q : P) : m ≤ sizeLine ∧ P := ⟨c, q⟩
theorem r_insR {C : Addr} {fn : Str} {fs : List (Str × D)} {P : D → Prop} (e : h[n]? = some (.ins C fs)) (l : fs.lookup fn = some d) (q : P d) : ∃ fs d, insv h (.ref n) = some (C, fs) ∧ fs.lookup fn = some d ∧ P d := ⟨fs, d, by simp only [insv, e], l, q⟩
theorem r_gfld {C : Addr} {fn : Str} {j : Nat} {fs gs : List (Str × D)} (v : δ[j]? = some (some (.ref n))) (e : h[n]? = some (.ins C fs)) (l : fs.length < 1000) (p : putD fn d fs = gs) (q : RN δ (h.set n (.ins C gs))) : gFld C fn (dVar j) d δ h RN :=
  ⟨_, v, n, fs, rfl, e, l, by rw [p]; exact q⟩
theorem r_setF {C : Addr} {fn : Str} (q : tb δ h fun d h1 => gFld C fn ta d δ h1 E.nx) : dSetF C fn ta tb E δ h := q
def augE (C : Addr) (op : Int → Int → Int) (fn : Str) (n : Nat) (a : Int) (Q : OS → Prop) (y : D) (h : OS) : Prop := ∃ j gs, y = .int j ∧ h[n]? = some (.ins C gs) ∧ gs.length < 1000 ∧ Q (h.set n (.ins C (putD fn (.int (op a j)) gs)))
theorem r_augF {C : Addr} {op : Int → Int → Int} {fn : Str} {j : Nat} {fs : List (Str × D)} {a : Int} (v : δ[j]? = some (some (.ref n))) (e : h[n]? = some (.ins C fs)) (l : fs.lookup fn = some (.int a)) (q : tb δ h fun y h2 => augE C op fn n a (E.nx δ) y h2) : dAugF C op fn (dVar j) tb E δ h :=
  ⟨_, v, n, fs, a, rfl, e, l, q⟩
theorem r_augE {C : Addr} {op : Int → Int → Int} {fn : Str} {fs gs : List (Str × D)} {a b : Int} {Q : OS → Prop} (e : h[n]? = some (.ins C fs)) (l : fs.length < 1000) (p : putD fn (.int (op a b)) fs = gs) (q : Q (h.set n (.ins C gs))) : augE C op fn n a Q (.int b) h :=
  ⟨b, fs, rfl, e, l, by rw [p]; exact q⟩
theorem r_make {C : Addr} {m k : Nat} {sp : DSp} {gD : List D → List D → List D} {RE : DX} (q : td δ h fun ds h1 => td2 δ h1 fun es h2 => ds.length = m ∧ es.length = k ∧ sp (gD (.ref h2.length :: ds) es) (h2 ++ [.ins C []]) (fun d h3 => d = .non ∧ R (.ref h2.length) h3) RE) : dMake C m k sp gD RE td td2 δ h R := q
theorem r_makeV {C : Addr} {m k : Nat} {sp : DSp} {gD : List D → List D → List D} {RE : DX} (q : td δ h fun ds h1 => td2 δ h1 fun es h2 => ds.length = m ∧ es.length = k ∧ sp (gD (.ref h2.length :: ds) es) (h2 ++ [.ins C []]) (fun d h3 => d = .non ∧ ∃ h4 o, h3 = h4 ++ [o] ∧ h4.length = h2.length ∧ okOs h4.length h4 ∧ okO h4.length o ∧ R (val o) h4) RE) : dMakeV C m k sp gD RE td td2 δ h R := q
theorem r_for {si : TDI} (q : si δ h fun S h1 => ∃ Pv : Nat → DS → OS → Prop, Pv 0 δ h1 ∧ (∀ i δ h, i ≤ S.items.length → Pv i δ h → S.G h) ∧
  (∀ (i : Nat) d δ h, S.items[i]? = some d → Pv i δ h → g d δ h fun δ2 h2 =>
    t { E with nx := fun δ' h' => ∃ δ3 h3, Drp h1.length δ' h' δ3 h3 ∧ Pv (i + 1) δ3 h3, ct := fun δ' h' => ∃ δ3 h3, Drp h1.length δ' h' δ3 h3 ∧ Pv (i + 1) δ3 h3, bk := E.nx } δ2 h2) ∧
  ∀ δ h, Pv S.items.length δ h → E.nx δ h) : dFor si g t E δ h := q
theorem r_range1 {RS : Src → OS → Prop} (q : te δ h fun x h1 => ∃ j, x = .int j ∧ -(2 ^ 62) ≤ j ∧ j < 2 ^ 62 ∧ RS ⟨(List.range j.toNat).map fun k => .int (k : Nat), fun _ => True⟩ h1) : iRange1 te δ h RS := q
/-- for k in range(j): Pv by the turn -/
theorem for_range1 {j : Int} (h0 : -(2 ^ 62) ≤ j) (h1 : j < 2 ^ 62) (Pv : Nat → DS → OS → Prop) (p0 : Pv 0 δ h)
    (ps : ∀ (k : Nat) δ h', (k : Int) < j → Pv k δ h' → g (.int (k : Nat)) δ h' fun δ2 h2 => t { E with nx := fun δ' h'' => ∃ δ3 h3, Drp h.length δ' h'' δ3 h3 ∧ Pv (k + 1) δ3 h3, ct := fun δ' h'' => ∃ δ3 h3, Drp h.length δ' h'' δ3 h3 ∧ Pv (k + 1) δ3 h3, bk := E.nx } δ2 h2)
    (pd : ∀ δ h', Pv j.toNat δ h' → E.nx δ h') (q : te δ h fun x h1 => x = .int j ∧ h1 = h) (mono : ∀ (R R' : DK), (∀ x h, R x h → R' x h) → te δ h R → te δ h R') : dFor (iRange1 te) g t E δ h := by
  refine mono _ _ ?_ q
  rintro x h' ⟨rfl, rfl⟩
  refine ⟨j, rfl, h0, h1, Pv, p0, fun _ _ _ _ _ => trivial, ?_, ?_⟩
  · intro k d δ h2 e p
    have e' := range_at e
    have hk : k < ((List.range j.toNat).map fun k => D.int (k : Nat)).length := (List.getElem?_eq_some_iff.mp e).1
    rw [List.length_map, List.length_range] at hk
    subst e'
    exact ps k δ h2 (by omega) p
  · intro δ h2 p
    simp only [List.length_map, List.length_range] at p
    exact pd δ h2 p
/-- the same, where the range's end has been reckoned -/
theorem r_rangeP {j : Int} (h0 : -(2 ^ 62) ≤ j) (h1 : j < 2 ^ 62) (Pv : Nat → DS → OS → Prop) (p0 : Pv 0 δ h)
    (ps : ∀ (k : Nat) δ h', (k : Int) < j → Pv k δ h' → g (.int (k : Nat)) δ h' fun δ2 h2 => t { E with nx := fun δ' h'' => ∃ δ3 h3, Drp h.length δ' h'' δ3 h3 ∧ Pv (k + 1) δ3 h3, ct := fun δ' h'' => ∃ δ3 h3, Drp h.length δ' h'' δ3 h3 ∧ Pv (k + 1) δ3 h3, bk := E.nx } δ2 h2)
    (pd : ∀ δ h', Pv j.toNat δ h' → E.nx δ h') : ∃ j', D.int j = .int j' ∧ -(2 ^ 62) ≤ j' ∧ j' < 2 ^ 62 ∧ ∃ Pv : Nat → DS → OS → Prop, Pv 0 δ h ∧ (∀ i δ h, i ≤ (Src.mk ((List.range j'.toNat).map fun k => D.int (k : Nat)) fun _ => True).items.length → Pv i δ h → (Src.mk ((List.range j'.toNat).map fun k => D.int (k : Nat)) fun _ => True).G h) ∧
  (∀ (i : Nat) d δ h2, (Src.mk ((List.range j'.toNat).map fun k => D.int (k : Nat)) fun _ => True).items[i]? = some d → Pv i δ h2 → g d δ h2 fun δ2 h3 =>
    t { E with nx := fun δ' h' => ∃ δ3 h3, Drp h.length δ' h' δ3 h3 ∧ Pv (i + 1) δ3 h3, ct := fun δ' h' => ∃ δ3 h3, Drp h.length δ' h' δ3 h3 ∧ Pv (i + 1) δ3 h3, bk := E.nx } δ2 h3) ∧
  ∀ δ h2, Pv (Src.mk ((List.range j'.toNat).map fun k => D.int (k : Nat)) fun _ => True).items.length δ h2 → E.nx δ h2 := by
  refine ⟨j, rfl, h0, h1, Pv, p0, fun _ _ _ _ _ => trivial, ?_, ?_⟩
  · intro k d δ h2 e p
    have e' := range_at e
    have hk : k < ((List.range j.toNat).map fun k => D.int (k : Nat)).length := (List.getElem?_eq_some_iff.mp e).1
    rw [List.length_map, List.length_range] at hk
    subst e'
    exact ps k δ h2 (by omega) p
  · intro δ h2 p
    simp only [List.length_map, List.length_range] at p
    exact pd δ h2 p
theorem r_mt {C : Addr} {mn : Str} {sp : DSp} (q : ta δ h fun x h1 => ∃ fs, insv h1 x = some (C, fs) ∧ fs.lookup mn = none ∧ td δ h1 fun ds h2 => sp (x :: ds) h2 R NoX) : dMt C mn sp ta td δ h R := q
theorem r_mt1 {C : Addr} {mn : Str} {P : Prop} {fs : List (Str × D)} (e : h[n]? = some (.ins C fs)) (l : fs.lookup mn = none) (q : P) : ∃ fs, insv h (.ref n) = some (C, fs) ∧ fs.lookup mn = none ∧ P := ⟨fs, by simp only [insv, e], l, q⟩
theorem look_set {o o' : O} (e : h[n]? = some o') : (h.set n o)[n]? = some o := List.getElem?_set_self (List.getElem?_eq_some_iff.mp e).1
theorem look_setN {o o' : O} (ne : i ≠ n) (e : h[n]? = some o') : (h.set i o)[n]? = some o' := by
  rw [List.getElem?_set_ne ne]
  exact e
theorem look_app {o : O} {g : OS} (e : h[n]? = some o) : (h ++ g)[n]? = some o := by
  rw [List.getElem?_append_left (List.getElem?_eq_some_iff.mp e).1]
  exact e
theorem set_end {o o' : O} {g : OS} : (h ++ o :: g).set h.length o' = h ++ o' :: g := by
  rw [List.set_append_right _ _ (Nat.le_refl _), Nat.sub_self]
  rfl
theorem look_end {o : O} {g : OS} : (h ++ o :: g)[h.length]? = some o := by
  rw [List.getElem?_append_right (Nat.le_refl _), Nat.sub_self]
  rfl
end
end FL
/-! len and truth by an own __len__; a text times a number. -/
namespace FL
open PySem PySem.Spec PyProof.Rows L2

/-- a method run one call deeper, as built-ins do -/
theorem run_in1 {X : Cx} {k : Nat} {f a : Addr} {fd : FuncData} {ps : List Str} {sp : DSp} {pins : List (Addr × Obj)} {σ : L2.St} {H : Hp} {s : Shared} {Q : VK} {us : List Value} {vs : List V}
    (F : FnD X.prog X.w X.K X.mg X.base CX0 k f fd ps sp) (hr : Room (k + 1) X.A) (gd : X.A.guards = some []) (hb : Binds X.K fd ps []) (J : Inv X pins σ H s) (r : Vals vs us) (h : upSp X.K sp vs H Q E0) :
    wpAny (model X.prog X.w) X.A.in1 (call (.ref f) us) (EP X pins σ Q) X.xe s := by
  have l := F.len _ _ _ _ h
  have b := hb s us J.kIn (by rw [List.append_nil, ← r.length]; exact l)
  rw [List.append_nil] at b
  have run := F.run X.A.in1 X.stack s H ⟨us, []⟩ us vs Q E0 hr.in1 gd J.env0.in1 b r h
  refine wpAny_call (codeAny_mono run ?_)
  intro z s' hq
  cases z with
  | error e => exact hq.elim
  | ok fl =>
    cases fl with
    | ret u => exact J.after hq
    | next => exact hq.elim
    | brk => exact hq.elim
    | cont => exact hq.elim
def fLenOwn (C : Addr) (sp : DSp) : FA := fun ds h R => ∃ x fs, ds = [x] ∧ insv h x = some (C, fs) ∧ sp [x] h (fun d h' => ∃ n, d = .int n ∧ 0 ≤ n ∧ n < 2 ^ 63 ∧ R (.int n) h') NoX
theorem o_lenOwn {X : Cx} {k : Nat} {C : Addr} {sp : DSp} (G : GMt X.prog X.w X.K X.mg X.base k C "__len__" 0 sp) (hr : Room (k + 1) X.A) (gd : X.A.guards = some []) : DC X (.builtin "len") (fLenOwn C sp) := by
  obtain ⟨f, fd, ps, F, hm, hn, hb⟩ := G
  intro pins s σ H xs us Q J r ⟨I, ds, h, R, hr0, rd, ⟨x, fs, e, e1, hs⟩, go⟩
  subst e
  obtain ⟨v, rfl, rx⟩ := rd.one
  obtain ⟨u, rfl, ru⟩ := vals1 r
  obtain ⟨a, dx, ws, rfl, q2, l1, _⟩ := insv_ok hr0 rx e1
  obtain rfl : u = Value.ref a := ru
  obtain ⟨mA, ob, _⟩ := ins_get J.hok q2
  obtain ⟨od, inst, _⟩ := ob.look
  obtain ⟨m, fr⟩ := J.fr
  refine PySem.W.len_K fr J.ok.mod.kin inst hm.at_ hm.fn ?_
  have q : upSp X.K sp [.ref a] H (fun v H' => ∃ n, v = .int n ∧ 0 ≤ n ∧ n < 2 ^ 63 ∧ Q (.int n) H') E0 := by
    refine ⟨I, [x], h, _, NoX, hr0, .cons rx .nil, hs, ?_, GoX.no⟩
    rintro d h' I' H' v ⟨n, rfl, n0, n1, hR⟩ s1 hr1 rd1
    cases rd1
    exact ⟨n, rfl, n0, n1, go _ h' I' H' _ hR s1 hr1 (.int n)⟩
  refine thn (run_in1 (a := a) (vs := [V.ref a]) F hr gd hb J (.cons rfl .nil) q) ?_
  rintro u s1 ⟨v, H', J1, rv, n, rfl, n0, n1, hQ⟩
  obtain ⟨t, rfl⟩ := rv
  exact ⟨⟨n0, n1⟩, ⟨.int n, H', J1.tok _, ⟨_, rfl⟩, hQ⟩⟩

/-! ### a text times a number -/
def repS (x : Str) (n : Int) : Str := if n < 1 then Str.empty else if (n == 1 || x.length == 0) = true then x else ⟨(List.replicate n.toNat x.cps).foldl (· ++ ·) #[]⟩
theorem foldl_len (a : Array Nat) : ∀ (n : Nat) (b : Array Nat), ((List.replicate n a).foldl (· ++ ·) b).size = b.size + n * a.size
  | 0, b => by simp
  | n + 1, b => by
    rw [List.replicate_succ, List.foldl_cons, foldl_len a n, Array.size_append, Nat.succ_mul]
    omega
theorem repS_len (x : Str) (n : Int) : (repS x n).length = n.toNat * x.length := by
  unfold repS
  by_cases h1 : n < 1
  · rw [if_pos h1]
    have : n.toNat = 0 := by omega
    rw [this, Nat.zero_mul]
    rfl
  · rw [if_neg h1]
    by_cases h2 : (n == 1 || x.length == 0) = true
    · rw [if_pos h2]
      rw [Bool.or_eq_true, beq_iff_eq, beq_iff_eq] at h2
      rcases h2 with z | z
      · subst z
        simp
      · rw [z, Nat.mul_zero]
    · rw [if_neg h2]
      show ((List.replicate n.toNat x.cps).foldl (· ++ ·) #[]).size = _
      rw [foldl_len]
      simp [Str.length]
def fMulS : F2 := fun x y h R => ∃ a n, x = .str a ∧ y = .int n ∧ -(2 ^ 20) ≤ n ∧ n ≤ 2 ^ 20 ∧ n.toNat * a.length ≤ 2 ^ 20 ∧ R (.str (repS a n)) h
theorem o_mulS {X : Cx} : DOp X (binaryOp .Mult) fMulS := by
  intro pins s σ H x y v u Q J rx ry ⟨I, dx, dy, h, R, hr, rdx, rdy, ⟨a, n, e1, e2, n0, n1, hz, hR⟩, go⟩
  subst e1 e2
  cases rdx
  cases rdy
  obtain ⟨t1, rfl⟩ := rx
  obtain ⟨t2, rfl⟩ := ry
  have q : Q (.str (repS a n)) H := go.now hR hr (.str _)
  refine PySem.P.mul_str ?_ ?_ ?_ ?_
  · rw [decide_eq_false (by omega), decide_eq_false (by omega)]
    rfl
  · intro h1 h2 h3
    have hn : 1 ≤ n := by omega
    have hx : (a.length : Int) ≤ 2 ^ 20 := by
      have h5 : 1 ≤ n.toNat := by omega
      have := Nat.mul_le_mul h5 (Nat.le_refl a.length)
      omega
    have h4 : (2 ^ 63 - 1 : Int) / 2 ^ 20 ≤ (2 ^ 63 - 1) / n := by
      rw [Int.le_ediv_iff_mul_le (by omega)]
      have e1 : (2 ^ 63 - 1 : Int) / 2 ^ 20 = 8796093022207 := by decide
      rw [e1]
      omega
    have e2 : (2 ^ 63 - 1 : Int) / 2 ^ 20 = 8796093022207 := by decide
    omega
  · intro h1 h2
    show decide _ = false
    refine decide_eq_false ?_
    rw [Nat.mul_comm]
    have : (sizeLine : Nat) = 2 ^ 24 := rfl
    omega
  · unfold repS at q
    by_cases h1 : n < 1
    · rw [if_pos h1] at q ⊢
      exact ⟨by decide, ⟨V.str _, H, J.tok _, ⟨_, rfl⟩, q⟩⟩
    · rw [if_neg h1] at q ⊢
      by_cases h2 : (n == 1 || a.length == 0) = true
      · rw [if_pos h2] at q ⊢
        exact ⟨V.str _, H, J, ⟨_, rfl⟩, q⟩
      · rw [if_neg h2] at q ⊢
        refine ⟨?_, ⟨V.str _, H, J.tok _, ⟨_, rfl⟩, q⟩⟩
        have e := repS_len a n
        unfold repS at e
        rw [if_neg h1, if_neg h2] at e
        rw [e]
        have : (sizeLine : Nat) = 2 ^ 24 := rfl
        omega
/-! ### what is written out -/
theorem log2_small {i : Int} (h : i.natAbs < 2 ^ 200) : i.natAbs.log2 < 1920 := by
  by_cases z : i.natAbs = 0
  · rw [z]
    decide
  · have : i.natAbs.log2 < 200 := (Nat.log2_lt z).mpr h
    omega
theorem showI {i : Int} (h : i.natAbs < 2 ^ 200) : ShowP (.int i) := by
  have h1 := log2_small h
  refine ⟨?_, rfl, (show (0 : Nat) ≤ 60 by decide), PySem.int_text_fits h1⟩
  simpa [PyData.showable] using h1
theorem showI' {i : Int} (h0 : -(2 ^ 64) ≤ i) (h1 : i ≤ 2 ^ 64) : ShowP (.int i) := showI (by
  have : i.natAbs ≤ 2 ^ 64 := by omega
  exact Nat.lt_of_le_of_lt this (by decide))
theorem r_repr {h : OS} {R : DK} {x : D} {p : PyData} (e : toP (vw h x) = some p) (s : ShowP p) (q : R (.str p.shown) h) : fRepr [x] h R := ⟨x, p, rfl, e, s, q⟩
end FL
/-! truth by an own __len__. -/
namespace FL
open PySem PySem.Spec PyProof.Rows L2

section
variable {prog : Program} {w : World} {A : Around} {E : Value → Shared → Prop} {s : Shared} {K : Fg} {x C L f : Addr} {h₀ : Heap} {m : Str → Option Value} {ox : Obj} {od : Option Obj}
def LenTruth (Q : Bool → Shared → Prop) (v : Value) (s' : Shared) : Prop := ∃ n t, v = .int n t ∧ 0 ≤ n ∧ n < 2 ^ 63 ∧ ∀ k, Q (n != 0) { s' with toks := k }
theorem truthy_lenK {Q : Bool → Shared → Prop} (F : PyProof.Rows.Fr h₀ L s.heap m) (X₀ : K.In h₀) (I : PySem.W.InstAt s.heap x ox C od) (hb : PySem.W.findIn K (.ref C) "__bool__" = some none)
    (hs : PySem.W.findIn K (.ref C) "__len__" = some (some (.ref f))) (hf : PySem.W.isFn K (.ref f) = true)
    (h : wpAny (model prog w) A.in1 (call (.ref f) [.ref x]) (LenTruth Q) E s) : wpAny (model prog w) A (truthy (.ref x)) Q E s := by
  have X := X₀.keeps F.keep
  have key : wpAny (model prog w) A (runValue (.builtin "len" ⟨[.ref x], []⟩)) (fun r s' => ∃ n t, r = .int n t ∧ Q (n != 0) s') E s := by
    refine wpAny_runValue (codeAny_builtin PySem.entry_len ?_)
    rw [Around.under_plainId PySem.plain_len _]
    unfold Builtin.«len»
    refine wpAny_bind (m := oneArg "len" _) (wpAny_pure ?_)
    refine wpAny_bind (m := callSpecial? (.ref x) (Str.ofString "__len__")) (PySem.W.special_fn X I hs (beq_iff_eq.mp hf) (wpAny_mono h (fun r s' hr => ?_) fun _ _ y => y))
    obtain ⟨n, t, rfl, h0, h1, hq⟩ := hr
    refine wpAny_bind (wpAny_holding (wpAny_pure ?_))
    refine wpAny_bind (wpAny_letGo ?_)
    show wpAny _ _ (if n < 0 then _ else _) _ _ _
    rw [if_neg (by omega)]
    show wpAny _ _ (if n ≥ 2 ^ 63 then _ else _) _ _ _
    rw [if_neg (by omega)]
    exact wpAny_bind (wpAny_mkInt (wpAny_pure ⟨_, _, rfl, hq _⟩))
  have hsp : ∀ {Q' : Option Value → Shared → Prop}, Q' (some (.ref f)) s → wpAny (model prog w) A (specialOf (.ref x) "__len__") Q' E s := fun q => by
    unfold specialOf
    exact wpAny_bind (I.type.here ((PySem.W.looks_findIn X hs).here q))
  unfold truthy
  first
    | refine wpAny_bind (DSub.special_no (name := Str.ofString "__bool__") X I hb ?_)
    | refine wpAny_bind (wpAny_pure (wpAny_bind (DSub.special_no (name := Str.ofString "__bool__") X I hb ?_)))
  first
    | refine wpAny_bind (hsp ?_)
    | refine wpAny_bind (wpAny_pure (wpAny_bind (hsp ?_)))
  first
    | exact wpAny_bind (wpAny_mono key (fun r s' h' => by obtain ⟨n, t, rfl, hq⟩ := h'; exact wpAny_pure hq) fun _ _ e => e)
    | exact wpAny_bind (wpAny_pure (wpAny_bind (wpAny_mono key (fun r s' h' => by obtain ⟨n, t, rfl, hq⟩ := h'; exact wpAny_pure hq) fun _ _ e => e)))
theorem bool_of {v : Value} {Q : Value → Shared → Prop} (h : wpAny (model prog w) A.in1.in1 (truthy v) (fun b s' => Q (.bool b) s') E s) : wpAny (model prog w) A (call (.type "bool") [v]) Q E s := by
  refine callType_newIn (S := fun B R s => wpAny (model prog w) B.in1 (truthy v) (fun b s' => R (.ok (.ret (.bool b))) s') (fun e s' => R (.error e) s') s) F.called_bool F.newNe_bool (F.typeCall_bool_1 v) (F.newCall_bool_1 v) (fun obj => F.args_object_init_2 obj v) F.entry_bool_new ?_ ?_
  · intro B R s h
    obtain ⟨hp, g, d, tk, os⟩ := s
    have f1 := F.conv_sub_bool
    repeat (any_goals (first | assumption | wp_step))
    unfold truthy at h
    exact wpAny_mono h (fun b s' q => wpAny_pure q) fun _ _ e => e
  · refine wpAny_mono h (fun b s' q => ⟨?_, q⟩) fun _ _ e => e
    exact PySem.typeIs_bool _ _
end
/-- a method run somewhere below -/
theorem run_at {X : Cx} {k : Nat} {f a : Addr} {fd : FuncData} {ps : List Str} {sp : DSp} {pins : List (Addr × Obj)} {σ : L2.St} {H : Hp} {s : Shared} {Q : VK} {us : List Value} {vs : List V} {A' : Around}
    (F : FnD X.prog X.w X.K X.mg X.base CX0 k f fd ps sp) (hr : Room k A') (gd : A'.guards = some []) (he : Env0 X.prog X.w X.K X.mg X.base A' X.stack s H) (hb : Binds X.K fd ps []) (J : Inv X pins σ H s) (r : Vals vs us) (h : upSp X.K sp vs H Q E0) :
    wpAny (model X.prog X.w) A' (call (.ref f) us) (EP X pins σ Q) X.xe s := by
  have l := F.len _ _ _ _ h
  have b := hb s us J.kIn (by rw [List.append_nil, ← r.length]; exact l)
  rw [List.append_nil] at b
  have run := F.run A' X.stack s H ⟨us, []⟩ us vs Q E0 hr gd he b r h
  refine wpAny_call (codeAny_mono run ?_)
  intro z s' hq
  cases z with
  | error e => exact hq.elim
  | ok fl =>
    cases fl with
    | ret u => exact J.after hq
    | next => exact hq.elim
    | brk => exact hq.elim
    | cont => exact hq.elim
def fBoolOwn (C : Addr) (sp : DSp) : FA := fun ds h R => ∃ x fs, ds = [x] ∧ insv h x = some (C, fs) ∧ sp [x] h (fun d h' => ∃ n, d = .int n ∧ 0 ≤ n ∧ n < 2 ^ 63 ∧ R (.bl (n != 0)) h') NoX
theorem o_boolOwn {X : Cx} {k : Nat} {C : Addr} {sp : DSp} (G : GMt X.prog X.w X.K X.mg X.base k C "__len__" 0 sp) (nb : NoAttr X.K C "__bool__") (hr : Room (k + 3) X.A) (gd : X.A.guards = some []) : DC X (.type "bool") (fBoolOwn C sp) := by
  obtain ⟨f, fd, ps, F, hm, hn, hb⟩ := G
  intro pins s σ H xs us Q J r ⟨I, ds, h, R, hr0, rd, ⟨x, fs, e, e1, hs⟩, go⟩
  subst e
  obtain ⟨v, rfl, rx⟩ := rd.one
  obtain ⟨u, rfl, ru⟩ := vals1 r
  obtain ⟨a, dx, ws, rfl, q2, l1, _⟩ := insv_ok hr0 rx e1
  obtain rfl : u = Value.ref a := ru
  obtain ⟨mA, ob, _⟩ := ins_get J.hok q2
  obtain ⟨od, inst, _⟩ := ob.look
  obtain ⟨m, fr⟩ := J.fr
  refine bool_of (truthy_lenK fr J.ok.mod.kin inst nb hm.at_ hm.fn ?_)
  have q : upSp X.K sp [.ref a] H (fun v H' => ∃ n, v = .int n ∧ 0 ≤ n ∧ n < 2 ^ 63 ∧ Q (.bl (n != 0)) H') E0 := by
    refine ⟨I, [x], h, _, NoX, hr0, .cons rx .nil, hs, ?_, GoX.no⟩
    rintro d h' I' H' v ⟨n, rfl, n0, n1, hR⟩ s1 hr1 rd1
    cases rd1
    exact ⟨n, rfl, n0, n1, go _ h' I' H' _ hR s1 hr1 (.bl _)⟩
  refine thn (run_at (a := a) (vs := [V.ref a]) F hr.in1.in1.in1 gd J.env0.in1.in1.in1 hb J (.cons rfl .nil) q) ?_
  rintro u s1 ⟨v, H', J1, rv, n, rfl, n0, n1, hQ⟩
  obtain ⟨t, rfl⟩ := rv
  exact ⟨n, t, rfl, n0, n1, fun k => ⟨.bl _, H', J1.tok _, rfl, hQ⟩⟩
end FL
/-! What may be written out, with a bound. -/
namespace FL
open PySem L2

/-- p is shown by at most n signs, d deep -/
structure Sh (p : PyData) (n d : Nat) : Prop where
  sh : p.showable = true
  nd : p.hasDict = false
  dp : p.depth ≤ d
  sz : p.shown.length ≤ n
structure ShA (ps : List PyData) (n d : Nat) : Prop where
  sh : PyData.showableAll ps = true
  nd : PyData.hasDictAll ps = false
  dp : PyData.depthAll ps ≤ d
  sz : piled (PyData.shownAll ps) ≤ n
theorem Sh.wk {p : PyData} {n d n' d' : Nat} (h : Sh p n d) (hn : n ≤ n') (hd : d ≤ d') : Sh p n' d' := ⟨h.sh, h.nd, Nat.le_trans h.dp hd, Nat.le_trans h.sz hn⟩
theorem ShA.wk {p : List PyData} {n d n' d' : Nat} (h : ShA p n d) (hn : n ≤ n') (hd : d ≤ d') : ShA p n' d' := ⟨h.sh, h.nd, Nat.le_trans h.dp hd, Nat.le_trans h.sz hn⟩
theorem Sh.show {p : PyData} {n d : Nat} (h : Sh p n d) (hn : n ≤ 16777216) (hd : d ≤ 60) : ShowP p := ⟨h.sh, h.nd, Nat.le_trans h.dp hd, Nat.le_trans h.sz (show n ≤ sizeLine from hn)⟩
theorem sh_none : Sh .none 4 0 := ⟨rfl, rfl, Nat.le_refl 0, Nat.le_refl 4⟩
theorem sh_bool {b : Bool} : Sh (.bool b) 5 0 := ⟨rfl, rfl, Nat.le_refl 0, by cases b <;> decide⟩
theorem sh_int {i : Int} (h : i.natAbs < 2 ^ 200) : Sh (.int i) 201 0 := by
  have h1 : i.natAbs.log2 < 200 := by
    by_cases z : i.natAbs = 0
    · rw [z]
      decide
    · exact (Nat.log2_lt z).mpr h
  refine ⟨?_, rfl, Nat.le_refl 0, ?_⟩
  rotate_left
  · have := PySem.int_text_length_le (by decide) h1
    simp only [PyData.shown]
    rw [PySem.ofString_length]
    exact this
  have : i.natAbs.log2 < 1920 := by omega
  simpa [PyData.showable] using this
theorem sh_i {i : Int} (h0 : -(2 ^ 64) ≤ i) (h1 : i ≤ 2 ^ 64) : Sh (.int i) 201 0 := sh_int (by
  have : i.natAbs ≤ 2 ^ 64 := by omega
  exact Nat.lt_of_le_of_lt this (by decide))
theorem sh_str {x : Str} {n : Nat} (hl : x.length ≤ n) (hx : ∀ c ∈ x.cps.toList, c < 16 ^ 8) : Sh (.str x) (10 * n + 2) 0 := by
  refine ⟨rfl, rfl, Nat.le_refl 0, ?_⟩
  have := PySem.StrLaws.reprText_len x hx
  simp only [PyData.shown]
  omega
theorem sha_nil : ShA [] 0 0 := ⟨rfl, rfl, Nat.le_refl 0, Nat.le_refl 0⟩
theorem sha_cons {p : PyData} {ps : List PyData} {n d n' d' : Nat} (h : Sh p n d) (hs : ShA ps n' d') : ShA (p :: ps) (n + 2 + n') (max d d') := by
  refine ⟨?_, ?_, ?_, ?_⟩
  · simp only [PyData.showableAll, h.sh, hs.sh, Bool.and_self]
  · simp only [PyData.hasDictAll, h.nd, hs.nd, Bool.or_self]
  · simp only [PyData.depthAll]
    have := h.dp
    have := hs.dp
    omega
  · simp only [PyData.shownAll, piled_cons]
    have := h.sz
    have := hs.sz
    omega
/-- many alike -/
theorem sha_all {n d : Nat} : ∀ {ps : List PyData}, (∀ p ∈ ps, Sh p n d) → ShA ps (ps.length * (n + 2)) d
  | [], _ => ⟨rfl, rfl, Nat.zero_le _, Nat.zero_le _⟩
  | p :: ps, h => by
    have h1 := sha_cons (h p (List.mem_cons_self ..)) (sha_all fun q hq => h q (List.mem_cons_of_mem _ hq))
    refine h1.wk ?_ (by omega)
    rw [List.length_cons, Nat.succ_mul]
    omega
theorem textFrom_le : ∀ (ts : List Str) (k : Nat) (acc : Str), (textFrom k acc ts).length ≤ acc.length + piled ts
  | [], k, acc => by simp [textFrom, piled_nil]
  | t :: r, k, acc => by
    have := textFrom_le r (k + 1) (acc ++ (if k > 0 then ", " else "" : String) ++ t)
    rw [piled_cons]
    have e : (acc ++ (if k > 0 then ", " else "" : String) ++ t).length ≤ acc.length + 2 + t.length := by
      rw [strLen_append, strLen_append]
      split
      · exact Nat.le_refl _
      · show acc.length + 0 + t.length ≤ _
        omega
    unfold textFrom
    omega
theorem sh_list {ps : List PyData} {n d : Nat} (h : ShA ps n d) : Sh (.list ps) (n + 2) (d + 1) := by
  refine ⟨h.sh, h.nd, ?_, ?_⟩
  · simp only [PyData.depth]
    have := h.dp
    omega
  · simp only [PyData.shown]
    unfold listText
    rw [strLen_append]
    have := textFrom_le (PyData.shownAll ps) 0 "["
    have := h.sz
    have e1 : ((("[" : String) : Str)).length = 1 := rfl
    have e2 : ((("]" : String) : Str)).length = 1 := rfl
    omega
theorem sh_tup {ps : List PyData} {n d : Nat} (h : ShA ps n d) : Sh (.tuple ps) (n + 3) (d + 1) := by
  refine ⟨h.sh, h.nd, ?_, ?_⟩
  · simp only [PyData.depth]
    have := h.dp
    omega
  · simp only [PyData.shown]
    unfold tupleText
    rw [strLen_append, strLen_append]
    have := h.sz
    have e1 : ((("(" : String) : Str)).length = 1 := rfl
    have e2 : (((if (PyData.shownAll ps).length == 1 then ",)" else ")" : String) : Str)).length ≤ 2 := by
      split <;> decide
    by_cases z : PyData.shownAll ps = []
    · have e2' := e2
      rw [z] at e2' this ⊢
      have e3 : (Str.join ", " []).length = 0 := rfl
      omega
    · have := join_length_add _ z
      omega
theorem r_reprS {h : OS} {R : DK} {x : D} {p : PyData} {n d : Nat} (e : toP (vw h x) = some p) (s : Sh p n d) (hn : n ≤ 16777216) (hd : d ≤ 60) (q : R (.str p.shown) h) : fRepr [x] h R := ⟨x, p, rfl, e, s.show hn hd, q⟩
theorem r_nT {A B : Prop} (q : B) : if (!true) = true then A else B := q
theorem r_nF {A B : Prop} (q : A) : if (!false) = true then A else B := q
end FL
namespace LK
open PySem L2 FL
local macro_rules | `(tactic| walk_at "len") => `(tactic| first | decide | (simp only [List.length_append, List.length_cons, List.length_nil, List.length_map]; omega) | (show _ ≤ 16777216; simp only [List.length_append, List.length_cons, List.length_nil, List.length_map]; omega))
local macro_rules | `(tactic| walk_at "look") => `(tactic| first | assumption | rfl | (refine' look_set (o' := ?o) ?q; (case q => walk_at "look")) | (refine look_app ?_; walk_at "look") | exact look_end)
local macro_rules | `(tactic| walk_at "mul") => `(tactic| first | (refine mulR ?_; constructor <;> omega) | (refine mulL ?_; constructor <;> omega))
local macro_rules | `(tactic| walk_at "at") => `(tactic| first | exact at0 | exact at1 | exact at2 | exact at3 | exact at4)
local macro_rules | `(tactic| walk_at "ix") => `(tactic| first | exact ix0 | exact ix1 | exact ix2)
local macro_rules | `(tactic| walk_at "s1") => `(tactic| with_reducible first
  | refine r_seq ?_ | refine r_asg ?_ | refine r_asg2 ?_ | refine r_gN ?_ | refine r_gT rfl ?_ | refine r_gsNil ?_ | refine r_gsCons ?_ | refine r_drop ?_ | refine r_ret ?_ | refine r_retN ?_ | refine r_ifS ?_ | refine r_next ?_
  | refine r_par ?_ | refine r_par2 ?_ | refine r_isI ?_ | refine r_dB ?_ | refine r_bl ?_ | refine r_and ?_ | refine r_or ?_ | refine r_not ?_ | refine r_T ?_ | refine r_F ?_ | refine r_nT ?_ | refine r_nF ?_)
local macro_rules | `(tactic| walk_at "s2") => `(tactic| with_reducible first
  | refine r_op ?_ | refine r_un ?_ | refine r_c ?_ | refine r_ifE ?_ | refine r_andV ?_ | refine r_orV ?_ | refine r_notV ?_ | refine r_chain ?_ | refine r_nil ?_ | refine r_cons ?_ | refine r_tup ?_ | refine r_lst ?_ | refine r_lstN ?_ | refine r_cb ?_ | refine r_fn ?_ | refine r_fld ?_ | refine r_bm ?_ | refine r_sl ?_ | refine r_noPart ?_ | refine r_part ?_ | refine r_subL ?_ | refine r_setF ?_ | refine r_mt ?_ | refine r_make ?_ | refine r_makeV ?_ | refine r_for ?_ | refine r_range1 ?_)
local macro_rules | `(tactic| walk_at "s3") => `(tactic| with_reducible first
  | refine r_addI ?_ | refine r_subI ?_ | refine r_negI ?_ | refine r_ltI ?_ | refine r_ltS ?_ | refine r_leI ?_ | refine r_gtI ?_ | refine r_geI ?_ | refine r_eqI ?_ | refine r_eqS ?_ | refine r_eqB ?_ | refine r_neI ?_ | refine r_neS ?_ | refine r_neB ?_
  | refine r_lenZ ?_ | refine r_lenL ?_ | refine r_lenT ?_ | refine r_min ?_ | refine r_max ?_ | refine r_intB ?_ | refine r_intI ?_ | refine r_boolI ?_ | refine r_boolB ?_ | refine r_tupleL ?_ | refine r_tupleT ?_ | refine r_tyS ?_)
local macro_rules | `(tactic| walk_at "s4") => `(tactic| first
  | ((with_reducible refine' r_var ?e ?_); (case e => rfl))
  | ((with_reducible refine' r_augI ?e ?_); (case e => rfl))
  | ((with_reducible refine r_modI ?c ?_); (case c => omega))
  | ((with_reducible refine r_mulI ?c ?_); (case c => walk_at "mul"))
  | ((with_reducible refine r_divI ?c ?_); (case c => refine divOk ?_ ?_ <;> omega))
  | ((with_reducible refine r_sz ?c ?_); (case c => walk_at "len"))
  | ((with_reducible refine r_addL ?c ?_); (case c => walk_at "len"))
  | ((with_reducible refine r_addT ?c ?_); (case c => walk_at "len"))
  | ((with_reducible refine r_powI ?c ?_); (case c => refine ⟨?_, ?_, ?_⟩ <;> decide))
  | ((with_reducible refine' r_ixT ?a ?_); (case a => walk_at "at"))
  | ((with_reducible refine' r_ixL ?a ?_); (case a => walk_at "at"))
  | ((with_reducible refine' r_ixR ?e ?a ?_); (case e => walk_at "look"); (case a => walk_at "at"))
  | ((with_reducible refine' r_setL ?e ?a ?_); (case e => walk_at "look"); (case a => walk_at "ix"))
  | ((with_reducible refine' r_lenR ?e ?_); (case e => walk_at "look"))
  | ((with_reducible refine' r_tupleR ?e ?_); (case e => walk_at "look"))
  | ((with_reducible refine' r_tyL ?e ?_); (case e => walk_at "look"))
  | ((with_reducible refine' r_append ?e ?c ?_); (case e => walk_at "look"); (case c => walk_at "len")))
local macro_rules | `(tactic| walk_at "go") => `(tactic| (repeat (first | walk_at "s1" | walk_at "s2" | walk_at "s3" | walk_at "s4" | walk_at "s5")))
local macro_rules | `(tactic| walk_at "start") => `(tactic| simp only [startD, List.map_cons, List.map_nil, List.length_cons, List.length_nil, Nat.reduceSub, Nat.reduceAdd, List.replicate, List.cons_append, List.nil_append])

/-! ### the text by places -/
def top (i : Nat) : Stmt := PySem.Challenge.pw_quotahours_k13_pools_through_deeds.main.body.getD i (.Pass ⟨0, 0, 0, 0⟩)
abbrev s_Pool___init__ : Stmt := (inClass (top 1) 0)
abbrev s_Pool___len__ : Stmt := (inClass (top 1) 1)
abbrev s_Pool_take : Stmt := (inClass (top 1) 3)
abbrev s_Pool_give : Stmt := (inClass (top 1) 4)
abbrev s_Pool_cut_to : Stmt := (inClass (top 1) 5)
abbrev s_Pool_fill : Stmt := (inClass (top 1) 6)
abbrev s_Pool_change : Stmt := (inClass (top 1) 7)
abbrev s_law_deck : Stmt := (top 3)
abbrev s_law_draw : Stmt := (top 4)
abbrev s_law_pool_size : Stmt := (top 5)
abbrev s_law_told : Stmt := (top 6)
abbrev s_law_cut : Stmt := (top 7)
abbrev s_law_deed_right : Stmt := (top 8)
abbrev s_law : Stmt := (top 9)
/-! ### promises -/
/-- a deck: three numbers -/
def DeckO (o : O) : Prop := ∃ x y z : Int, o = .lst [.int x, .int y, .int z]
def Deck (h : OS) (i : Nat) : Prop := ∃ o, h[i]? = some o ∧ DeckO o
def sp_law_deck : DSp := fun ds h R _ => ds.length = 2 ∧ ∃ (ns : List Int) (k : Int), ds = [.scr (ns.map D.int), .int k] ∧ 0 ≤ k ∧ ∀ o, DeckO o → R (.ref h.length) (h ++ [o])
def sp_law_draw : DSp := fun ds h R _ => ds.length = 2 ∧ ∃ (i : Nat) (w : Int), ds = [.ref i, .int w] ∧ Deck h i ∧ 0 < w ∧ w < 2 ^ 64 ∧ ∀ v o, DeckO o → 0 ≤ v → v < w → R (.int v) (h.set i o)
def sp_law_pool_size : DSp := fun ds h R _ => ds.length = 1 ∧ ∃ i : Nat, ds = [.ref i] ∧ Deck h i ∧ ∀ v o, DeckO o → 1 ≤ v → v ≤ 1000 → R (.int v) (h.set i o)
theorem r_draw {h : OS} {i : Nat} {w : Int} {R : DK} (hd : Deck h i) (w0 : 0 < w) (w1 : w < 2 ^ 64) (q : ∀ v o, DeckO o → 0 ≤ v → v < w → R (.int v) (h.set i o)) : sp_law_draw [.ref i, .int w] h R NoX := ⟨rfl, i, w, rfl, hd, w0, w1, q⟩
theorem Deck.set {h : OS} {i : Nat} {o : O} (hd : Deck h i) (ho : DeckO o) : Deck (h.set i o) i := by
  obtain ⟨o', e, _⟩ := hd
  exact ⟨o, look_set e, ho⟩
/-- a Pool -/
def pf (a b c : D) : List (Str × D) := [(("quota" : Str), a), (("there" : Str), b), (("burst" : Str), c)]
def poolO (C : Addr) (q t b : Int) : O := .ins C (pf (.int q) (.int t) (.int b))
theorem put_q0 (d : D) : putD "quota" d [] = [(("quota" : Str), d)] := rfl
theorem put_t0 (d e : D) : putD "there" d [(("quota" : Str), e)] = [(("quota" : Str), e), (("there" : Str), d)] := by
  unfold putD
  rw [if_neg (by decide +kernel)]
  rfl
theorem put_b0 (d e f : D) : putD "burst" d [(("quota" : Str), e), (("there" : Str), f)] = pf e f d := by
  unfold putD
  rw [if_neg (by decide +kernel)]
  unfold putD
  rw [if_neg (by decide +kernel)]
  rfl
theorem put_t (a b c d : D) : putD "there" d (pf a b c) = pf a d c := by
  unfold pf putD
  rw [if_neg (by decide +kernel)]
  unfold putD
  rw [if_pos rfl]
theorem lk_q (a b c : D) : (pf a b c).lookup ("quota" : Str) = some a := by
  unfold pf
  rw [List.lookup_cons]
  rfl
theorem lk_t (a b c : D) : (pf a b c).lookup ("there" : Str) = some b := by
  unfold pf
  rw [List.lookup_cons, show (("there" : Str) == "quota") = false by decide +kernel]
  rfl
theorem lk_b (a b c : D) : (pf a b c).lookup ("burst" : Str) = some c := by
  unfold pf
  rw [List.lookup_cons, show (("burst" : Str) == "quota") = false by decide +kernel]
  show (List.lookup ("burst" : Str) [(("there" : Str), b), (("burst" : Str), c)]) = _
  rw [List.lookup_cons, show (("burst" : Str) == "there") = false by decide +kernel]
  rfl
theorem lk_no (a b c : D) {m : Str} (h1 : (m == ("quota" : Str)) = false) (h2 : (m == ("there" : Str)) = false) (h3 : (m == ("burst" : Str)) = false) : (pf a b c).lookup m = none := by
  unfold pf
  rw [List.lookup_cons, h1]
  show (List.lookup m [(("there" : Str), b), (("burst" : Str), c)]) = _
  rw [List.lookup_cons, h2]
  show (List.lookup m [(("burst" : Str), c)]) = _
  rw [List.lookup_cons, h3]
  rfl
local macro_rules | `(tactic| walk_at "lk") => `(tactic| first | exact lk_t _ _ _ | exact lk_q _ _ _ | exact lk_b _ _ _)
local macro_rules | `(tactic| walk_at "put") => `(tactic| first | exact put_t _ _ _ _ | exact put_q0 _ | exact put_t0 _ _ | exact put_b0 _ _ _)
local macro_rules | `(tactic| walk_at "s5") => `(tactic| first
  | ((with_reducible refine' r_insR ?e ?l ?_); (case e => walk_at "look"); (case l => walk_at "lk"))
  | ((with_reducible refine' r_gfld ?v ?e ?l ?p ?_); (case v => rfl); (case e => walk_at "look"); (case p => walk_at "put"); (case l => first | exact (show 0 < 1000 by decide) | exact (show 1 < 1000 by decide) | exact (show 2 < 1000 by decide) | exact (show 3 < 1000 by decide)))
  | ((with_reducible refine' r_augF ?v ?e ?l ?_); (case v => rfl); (case e => walk_at "look"); (case l => walk_at "lk"))
  | ((with_reducible refine' r_augE ?e ?l ?p ?_); (case e => walk_at "look"); (case p => walk_at "put"); (case l => first | exact (show 0 < 1000 by decide) | exact (show 1 < 1000 by decide) | exact (show 2 < 1000 by decide) | exact (show 3 < 1000 by decide)))
  | ((with_reducible refine' r_mt1 ?e ?l ?_); (case e => walk_at "look"); (case l => refine lk_no _ _ _ ?_ ?_ ?_ <;> decide +kernel)))
def sp_Pool___init__ (C : Addr) : DSp := fun ds h R _ => ds.length = 3 ∧ ∃ (n : Nat) (q b : Int), ds = [.ref n, .int q, .int b] ∧ h[n]? = some (.ins C []) ∧ R .non (h.set n (poolO C q q b))
def sp_Pool___len__ (C : Addr) : DSp := fun ds h R _ => ds.length = 1 ∧ ∃ (n : Nat) (q t b : Int), ds = [.ref n] ∧ h[n]? = some (poolO C q t b) ∧ 0 ≤ t ∧ t ≤ 2 ^ 20 ∧ R (.int t) h
def sp_Pool_take (C : Addr) : DSp := fun ds h R _ => ds.length = 2 ∧ ∃ (n : Nat) (q t b m : Int), ds = [.ref n, .int m] ∧ h[n]? = some (poolO C q t b) ∧ ∀ c, c ≤ m → c ≤ t → (c = m ∨ c = t) → R (.int c) (h.set n (poolO C q (t - c) b))
def sp_Pool_give (C : Addr) : DSp := fun ds h R _ => ds.length = 2 ∧ ∃ (n : Nat) (q t b m : Int), ds = [.ref n, .int m] ∧ h[n]? = some (poolO C q t b) ∧ R .non (h.set n (poolO C q (t + m) b))
def sp_Pool_cut_to (C : Addr) : DSp := fun ds h R _ => ds.length = 2 ∧ ∃ (n : Nat) (q t b m : Int), ds = [.ref n, .int m] ∧ h[n]? = some (poolO C q t b) ∧ ∀ c, 0 ≤ c → t - m ≤ c → (c = 0 ∨ c = t - m) → R (.int c) (h.set n (poolO C q (t - c) b))
def sp_Pool_fill (C : Addr) : DSp := fun ds h R _ => ds.length = 1 ∧ ∃ (n : Nat) (q t b : Int), ds = [.ref n] ∧ h[n]? = some (poolO C q t b) ∧ ∀ c, 0 ≤ c → t - b ≤ c → (c = 0 ∨ c = t - b) → R (.int c) (h.set n (poolO C q (t - c + q) b))
theorem r_lenPool {C : Addr} {h : OS} {n : Nat} {q t b : Int} {R : DK} (e : h[n]? = some (poolO C q t b)) (t0 : 0 ≤ t) (t1 : t ≤ 2 ^ 20) (k : R (.int t) h) : fLenOwn C (sp_Pool___len__ C) [.ref n] h R :=
  ⟨_, pf (.int q) (.int t) (.int b), rfl, by simp only [insv, e, poolO], rfl, n, q, t, b, rfl, e, t0, t1, t, rfl, t0, by omega, k⟩
theorem r_take {C : Addr} {h : OS} {n : Nat} {q t b m : Int} {R : DK} (e : h[n]? = some (poolO C q t b)) (k : ∀ c, c ≤ m → c ≤ t → (c = m ∨ c = t) → R (.int c) (h.set n (poolO C q (t - c) b))) : sp_Pool_take C [.ref n, .int m] h R NoX := ⟨rfl, n, q, t, b, m, rfl, e, k⟩
theorem r_give {C : Addr} {h : OS} {n : Nat} {q t b m : Int} {R : DK} (e : h[n]? = some (poolO C q t b)) (k : R .non (h.set n (poolO C q (t + m) b))) : sp_Pool_give C [.ref n, .int m] h R NoX := ⟨rfl, n, q, t, b, m, rfl, e, k⟩
theorem r_fill {C : Addr} {h : OS} {n : Nat} {q t b : Int} {R : DK} (e : h[n]? = some (poolO C q t b)) (k : ∀ c, 0 ≤ c → t - b ≤ c → (c = 0 ∨ c = t - b) → R (.int c) (h.set n (poolO C q (t - c + q) b))) : sp_Pool_fill C [.ref n] h R NoX := ⟨rfl, n, q, t, b, rfl, e, k⟩
/-- what is due behind k fills -/
structure DueQ (q b k due : Int) : Prop where
  lo : q ≤ due
  hi : due ≤ q + b
  le : due ≤ q + k * q
  so : due = q + b ∨ due = q + k * q
theorem DueQ.zero {q b : Int} (hb : 0 ≤ b) : DueQ q b 0 q := ⟨Int.le_refl q, by omega, by rw [Int.zero_mul]; omega, by rw [Int.zero_mul]; omega⟩
theorem DueQ.next {q b k due e : Int} (h : DueQ q b k due) (hq : 1 ≤ q) (hb : 0 ≤ b) (e1 : e ≤ b) (e2 : e ≤ due) (e3 : e = b ∨ e = due) : DueQ q b (k + 1) (q + e) := by
  obtain ⟨a, b', c, d⟩ := h
  have z : (k + 1) * q = k * q + q := by rw [Int.add_mul, Int.one_mul]
  refine ⟨?_, ?_, ?_, ?_⟩
  · omega
  · omega
  · rw [z]; omega
  · rw [z]; omega
theorem set_self {h : OS} {i : Nat} {o : O} (e : h[i]? = some o) : h.set i o = h := by
  apply List.ext_getElem?
  intro j
  by_cases z : i = j
  · subst z
    rw [List.getElem?_set_self (List.getElem?_eq_some_iff.mp e).1, e]
  · rw [List.getElem?_set_ne z]
theorem okOs_set {h : OS} {i n : Nat} {o : O} (k : okOs n h) (ko : okO n o) : okOs n (h.set i o) := okOs_iff.mpr fun x hx => by
  rcases List.mem_or_eq_of_mem_set hx with z | z
  · exact okOs_iff.mp k x z
  · rw [z]
    exact ko
theorem DeckO.ok {o : O} {n : Nat} (h : DeckO o) : okO n o := by
  obtain ⟨x, y, z, rfl⟩ := h
  exact ⟨trivial, trivial, trivial, trivial⟩
section
variable {g : OS} {n i : Nat} {p1 p2 p o : O}
theorem lp1 (hn : g.length = n) : (g ++ [p1, p2])[n]? = some p1 := by
  subst hn
  exact look_end
theorem lp2 (hn : g.length = n) : (g ++ [p1, p2])[n + 1]? = some p2 := by
  subst hn
  rw [List.getElem?_append_right (Nat.le_succ _)]
  simp
theorem st1 (hn : g.length = n) : (g ++ [p1, p2]).set n p = g ++ [p, p2] := by
  subst hn
  exact set_end
theorem st2 (hn : g.length = n) : (g ++ [p1, p2]).set (n + 1) p = g ++ [p1, p] := by
  subst hn
  rw [List.set_append_right _ _ (Nat.le_succ _)]
  simp
theorem sti (hi : i < g.length) {r : OS} : (g ++ r).set i o = g.set i o ++ r := by
  rw [List.set_append_left _ _ hi]
end
theorem Deck.app {h g : OS} {i : Nat} (hd : Deck h i) : Deck (h ++ g) i := by
  obtain ⟨o', e, z⟩ := hd
  exact ⟨o', look_app e, z⟩
theorem Deck.lt {h : OS} {i : Nat} (hd : Deck h i) : i < h.length := by
  obtain ⟨o', e, z⟩ := hd
  exact (List.getElem?_eq_some_iff.mp e).1
theorem range_lt {n i : Nat} {f : Nat → D} {d : D} (e : ((List.range n).map f)[i]? = some d) : i < n := by
  have := (List.getElem?_eq_some_iff.mp e).1
  rw [List.length_map, List.length_range] at this
  exact this
theorem m_take (a b c : D) : (pf a b c).lookup ("take" : Str) = none := lk_no a b c (by decide +kernel) (by decide +kernel) (by decide +kernel)
theorem m_give (a b c : D) : (pf a b c).lookup ("give" : Str) = none := lk_no a b c (by decide +kernel) (by decide +kernel) (by decide +kernel)
theorem m_fill (a b c : D) : (pf a b c).lookup ("fill" : Str) = none := lk_no a b c (by decide +kernel) (by decide +kernel) (by decide +kernel)
local macro_rules | `(tactic| walk_at "less") => `(tactic| ((try simp only [List.set_cons_zero, List.set_cons_succ]); repeat (first | exact less_nil | refine less_keep ?_ | refine less_drop ?_)))
/-- three objects of ours: a deck, a pool, what is kept -/
structure T3 (h : OS) (i n k : Nat) : Prop where
  li : i < h.length
  ln : n < h.length
  lk : k < h.length
  ni : i ≠ n
  ik : i ≠ k
  nk : n ≠ k
def H3 (h : OS) (i n k : Nat) (o p l : O) : OS := ((h.set i o).set n p).set k l
section
variable {h : OS} {i n k : Nat} {o p l o' p' l' : O}
theorem h3_i (T : T3 h i n k) : (H3 h i n k o p l)[i]? = some o := by
  unfold H3
  rw [List.getElem?_set_ne (Ne.symm T.ik), List.getElem?_set_ne (Ne.symm T.ni), List.getElem?_set_self T.li]
theorem h3_n (T : T3 h i n k) : (H3 h i n k o p l)[n]? = some p := by
  unfold H3
  rw [List.getElem?_set_ne (Ne.symm T.nk), List.getElem?_set_self (by rw [List.length_set]; exact T.ln)]
theorem h3_k (T : T3 h i n k) : (H3 h i n k o p l)[k]? = some l := by
  unfold H3
  rw [List.getElem?_set_self (by rw [List.length_set, List.length_set]; exact T.lk)]
theorem h3_sk : (H3 h i n k o p l).set k l' = H3 h i n k o p l' := by
  unfold H3
  rw [List.set_set]
theorem h3_sn (T : T3 h i n k) : (H3 h i n k o p l).set n p' = H3 h i n k o p' l := by
  unfold H3
  rw [List.set_comm _ _ (Ne.symm T.nk), List.set_set]
theorem h3_si (T : T3 h i n k) : (H3 h i n k o p l).set i o' = H3 h i n k o' p l := by
  unfold H3
  rw [List.set_comm _ _ (Ne.symm T.ik), List.set_comm _ _ (Ne.symm T.ni), List.set_set]
end
local macro_rules | `(tactic| walk_at "look") => `(tactic| first | exact h3_i (by assumption) | exact h3_n (by assumption) | exact h3_k (by assumption))
def keptO (q b t : Int) : O := .lst [.int q, .int b, .int t]
/-- a size of a pool and what is in it -/
structure Bd (q b t m : Int) : Prop where
  q0 : 1 ≤ q
  q1 : q ≤ 1000
  b0 : 0 ≤ b
  b1 : b ≤ 1000
  t0 : 0 ≤ t
  t1 : t ≤ 2000 + 100 * m
def sp_Pool_change (C : Addr) : DSp := fun ds h R _ => ds.length = 3 ∧ ∃ (n : Nat) (q t b q' b' : Int), ds = [.ref n, .int q', .int b'] ∧ h[n]? = some (poolO C q t b) ∧ ∀ c, 0 ≤ c → t - (q' + b') ≤ c → (c = 0 ∨ c = t - (q' + b')) → R (.int c) (h.set n (poolO C q' (t - c) b'))
def sp_law_told (C : Addr) : DSp := fun ds h R _ => ds.length = 2 ∧ ∃ (n k : Nat) (q t b : Int), ds = [.ref n, .ref k] ∧ h[n]? = some (poolO C q t b) ∧ h[k]? = some (keptO q b t) ∧ Bd q b t 100 ∧ R (.bl true) h
def sp_law_cut : DSp := fun ds h R _ => ds.length = 2 ∧ ∃ (k : Nat) (q b t m : Int), ds = [.ref k, .int m] ∧ h[k]? = some (keptO q b t) ∧ ∀ c, 0 ≤ c → t - m ≤ c → (c = 0 ∨ c = t - m) → R (.int c) (h.set k (keptO q b (t - c)))
def sp_law_deed_right (C : Addr) : DSp := fun ds h R _ => ds.length = 3 ∧ ∃ (g : OS) (i n k : Nat) (o : O) (q b t m : Int), ds = [.ref i, .ref n, .ref k] ∧ T3 g i n k ∧ h = H3 g i n k o (poolO C q t b) (keptO q b t) ∧ DeckO o ∧ 0 ≤ m ∧ m ≤ 90 ∧ Bd q b t m ∧
  ∀ o' q' b' t', DeckO o' → Bd q' b' t' (m + 1) → R (.bl true) (H3 g i n k o' (poolO C q' t' b') (keptO q' b' t'))
theorem put_q (a b c d : D) : putD "quota" d (pf a b c) = pf d b c := by
  unfold pf putD
  rw [if_pos rfl]
theorem put_b (a b c d : D) : putD "burst" d (pf a b c) = pf a b d := by
  unfold pf putD
  rw [if_neg (by decide +kernel)]
  unfold putD
  rw [if_neg (by decide +kernel)]
  unfold putD
  rw [if_pos rfl]
local macro_rules | `(tactic| walk_at "put") => `(tactic| first | exact put_q _ _ _ _ | exact put_b _ _ _ _)
theorem m_change (a b c : D) : (pf a b c).lookup ("change" : Str) = none := lk_no a b c (by decide +kernel) (by decide +kernel) (by decide +kernel)
theorem m_cut (a b c : D) : (pf a b c).lookup ("cut_to" : Str) = none := lk_no a b c (by decide +kernel) (by decide +kernel) (by decide +kernel)
theorem r_boolPool {C : Addr} {h : OS} {n : Nat} {q t b : Int} {R : DK} (e : h[n]? = some (poolO C q t b)) (t0 : 0 ≤ t) (t1 : t ≤ 2 ^ 20) (k : R (.bl (t != 0)) h) : fBoolOwn C (sp_Pool___len__ C) [.ref n] h R :=
  ⟨_, pf (.int q) (.int t) (.int b), rfl, by simp only [insv, e, poolO], rfl, n, q, t, b, rfl, e, t0, t1, t, rfl, t0, by omega, k⟩
theorem same_repr {a b : Str} {R : DK} {h : OS} (e : a = b) (q : R (.bl true) h) : R (.bl (decide (a = b))) h := by
  rw [decide_eq_true e]
  exact q
/-! ### names that the text leaves to Python -/
structure Nm (mg : Str → Option Value) : Prop where
  b_bool : mg "bool" = none
  b_int : mg "int" = none
  b_len : mg "len" = none
  b_max : mg "max" = none
  b_min : mg "min" = none
  b_range : mg "range" = none
  b_repr : mg "repr" = none
structure ClPool (K : Fg) (C : Addr) : Prop where
  cl : Cls K C
  n___bool__ : NoAttr K C "__bool__"
  n_burst : NoAttr K C "burst"
  n_quota : NoAttr K C "quota"
  n_there : NoAttr K C "there"

section
variable {P : Program} {w : World} {K : Fg} {mg : Str → Option Value} {base : Heap}
theorem sc_Pool___init__ : FnScope ["self", "quota", "burst"] ["self", "quota", "burst"] (defScope s_Pool___init__) := ⟨rfl, rfl, rfl, by decide +kernel, rfl, by decide +kernel, by decide +kernel⟩
set_option maxHeartbeats 8000000 in
theorem ok_Pool___init__ {f : Addr} {fd : FuncData}
    {CPool : Addr}
    (F : FunA K "__init__" "Pool.__init__" s_Pool___init__ f fd)
    (B : Nm mg)
    (TPool : ClPool K CPool) :
    FnD P w K mg base CX0 1 f fd ["self", "quota", "burst"] (sp_Pool___init__ CPool) := by
  have nd := sc_Pool___init__.nd
  refine fnD F sc_Pool___init__ (fun _ _ _ _ q => q.1) fun cdv A outer s H E hr gd => ⟨_, (s_cons (s_asg2 (dv 1) (g_fld (dv 0) TPool.cl TPool.n_quota) (g_fld (dv 0) TPool.cl TPool.n_there))
        (s_one (s_fld (dv 0) (dv 2) TPool.cl TPool.n_burst))), ?_⟩
  rintro ds h R RE okh okd ⟨_, n, q, b, rfl, hn, hR⟩
  walk_at "start"
  walk_at "go"
  refine Or.inl ?_
  simp only [List.set_set]
  exact hR
theorem sc_Pool___len__ : FnScope ["self"] ["self"] (defScope s_Pool___len__) := ⟨rfl, rfl, rfl, by decide +kernel, rfl, by decide +kernel, by decide +kernel⟩
set_option maxHeartbeats 8000000 in
theorem ok_Pool___len__ {f : Addr} {fd : FuncData}
    {CPool : Addr}
    (F : FunA K "__len__" "Pool.__len__" s_Pool___len__ f fd)
    (B : Nm mg)
    (TPool : ClPool K CPool) :
    FnD P w K mg base CX0 1 f fd ["self"] (sp_Pool___len__ CPool) := by
  have nd := sc_Pool___len__.nd
  refine fnD F sc_Pool___len__ (fun _ _ _ _ q => q.1) fun cdv A outer s H E hr gd => ⟨_, (s_one (s_ret (d_callB o_len rfl B.b_len b_len (da_cons (d_bin o_mulS d_str (d_fld (dv 0) TPool.cl TPool.n_there)) da_nil)))), ?_⟩
  rintro ds h R RE okh okd ⟨_, n, q, t, b, rfl, hn, t0, t1, hR⟩
  walk_at "start"
  walk_at "go"
  have e : (repS (Str.ofString ".") t).length = t.toNat := by
    rw [repS_len]
    exact Nat.mul_one _
  refine ⟨_, t, rfl, rfl, by omega, t1, ?_, ?_⟩
  · show t.toNat * 1 ≤ 2 ^ 20
    omega
  · walk_at "go"
    refine r_lenS ?_ ?_
    · rw [e]
      show _ ≤ 2 ^ 24
      omega
    · rw [e, Int.toNat_of_nonneg t0]
      exact Or.inl hR
theorem sc_Pool_take : FnScope ["self", "many", "taken"] ["self", "many"] (defScope s_Pool_take) := ⟨rfl, rfl, rfl, by decide +kernel, rfl, by decide +kernel, by decide +kernel⟩
set_option maxHeartbeats 8000000 in
theorem ok_Pool_take {f : Addr} {fd : FuncData}
    {CPool : Addr}
    (F : FunA K "take" "Pool.take" s_Pool_take f fd)
    (B : Nm mg)
    (TPool : ClPool K CPool) :
    FnD P w K mg base CX0 1 f fd ["self", "many"] (sp_Pool_take CPool) := by
  have nd := sc_Pool_take.nd
  refine fnD F sc_Pool_take (fun _ _ _ _ q => q.1) fun cdv A outer s H E hr gd => ⟨_, (s_cons (s_set (i := 2) nd rfl (Or.inl rfl) (d_callB (o_min2 rfl) rfl B.b_min b_min (da_cons (dv 1) (da_cons (d_fld (dv 0) TPool.cl TPool.n_there) da_nil))))
        (s_cons (s_fldSub (dv 0) (dv 2) TPool.cl TPool.n_there)
        (s_one (s_ret (dv 2))))), ?_⟩
  rintro ds h R RE okh okd ⟨_, n, q, t, b, m, rfl, hn, hR⟩
  walk_at "start"
  walk_at "go"
  refine Or.inl (hR _ ?_ ?_ ?_)
  all_goals split <;> omega
theorem sc_Pool_give : FnScope ["self", "many"] ["self", "many"] (defScope s_Pool_give) := ⟨rfl, rfl, rfl, by decide +kernel, rfl, by decide +kernel, by decide +kernel⟩
set_option maxHeartbeats 8000000 in
theorem ok_Pool_give {f : Addr} {fd : FuncData}
    {CPool : Addr}
    (F : FunA K "give" "Pool.give" s_Pool_give f fd)
    (B : Nm mg)
    (TPool : ClPool K CPool) :
    FnD P w K mg base CX0 1 f fd ["self", "many"] (sp_Pool_give CPool) := by
  have nd := sc_Pool_give.nd
  refine fnD F sc_Pool_give (fun _ _ _ _ q => q.1) fun cdv A outer s H E hr gd => ⟨_, (s_one (s_fldAdd (dv 0) (dv 1) TPool.cl TPool.n_there)), ?_⟩
  rintro ds h R RE okh okd ⟨_, n, q, t, b, m, rfl, hn, hR⟩
  walk_at "start"
  walk_at "go"
  exact Or.inl hR
theorem sc_Pool_cut_to : FnScope ["self", "most", "cut"] ["self", "most"] (defScope s_Pool_cut_to) := ⟨rfl, rfl, rfl, by decide +kernel, rfl, by decide +kernel, by decide +kernel⟩
set_option maxHeartbeats 8000000 in
theorem ok_Pool_cut_to {f : Addr} {fd : FuncData}
    {CPool : Addr}
    (F : FunA K "cut_to" "Pool.cut_to" s_Pool_cut_to f fd)
    (B : Nm mg)
    (TPool : ClPool K CPool) :
    FnD P w K mg base CX0 1 f fd ["self", "most"] (sp_Pool_cut_to CPool) := by
  have nd := sc_Pool_cut_to.nd
  refine fnD F sc_Pool_cut_to (fun _ _ _ _ q => q.1) fun cdv A outer s H E hr gd => ⟨_, (s_cons (s_set (i := 2) nd rfl (Or.inl rfl) (d_callB (o_max2 rfl) rfl B.b_max b_max (da_cons d_int (da_cons (d_bin o_sub (d_fld (dv 0) TPool.cl TPool.n_there) (dv 1)) da_nil))))
        (s_cons (s_fldSub (dv 0) (dv 2) TPool.cl TPool.n_there)
        (s_one (s_ret (dv 2))))), ?_⟩
  rintro ds h R RE okh okd ⟨_, n, q, t, b, m, rfl, hn, hR⟩
  walk_at "start"
  walk_at "go"
  refine Or.inl (hR _ ?_ ?_ ?_)
  all_goals split <;> omega
theorem sc_Pool_fill : FnScope ["self", "cut"] ["self"] (defScope s_Pool_fill) := ⟨rfl, rfl, rfl, by decide +kernel, rfl, by decide +kernel, by decide +kernel⟩
set_option maxHeartbeats 8000000 in
theorem ok_Pool_fill {f : Addr} {fd : FuncData}
    {CPool : Addr}
    (F : FunA K "fill" "Pool.fill" s_Pool_fill f fd)
    (B : Nm mg)
    (TPool : ClPool K CPool)
    (G_Pool_cut_to : GMt P w K mg base 1 CPool "cut_to" 1 (sp_Pool_cut_to CPool)) :
    FnD P w K mg base CX0 2 f fd ["self"] (sp_Pool_fill CPool) := by
  have nd := sc_Pool_fill.nd
  refine fnD F sc_Pool_fill (fun _ _ _ _ q => q.1) fun cdv A outer s H E hr gd => ⟨_, (s_cons (s_set (i := 1) nd rfl (Or.inl rfl) (d_mt (dv 0) TPool.cl G_Pool_cut_to (hr.mono (by decide)) gd (da_cons (d_fld (dv 0) TPool.cl TPool.n_burst) da_nil)))
        (s_cons (s_fldAdd (dv 0) (d_fld (dv 0) TPool.cl TPool.n_quota) TPool.cl TPool.n_there)
        (s_one (s_ret (dv 1))))), ?_⟩
  rintro ds h R RE okh okd ⟨_, n, q, t, b, rfl, hn, hR⟩
  walk_at "start"
  walk_at "go"
  refine ⟨rfl, n, q, t, b, b, rfl, hn, fun c c0 c1 c2 => ?_⟩
  walk_at "go"
  refine Or.inl ?_
  simp only [List.set_set]
  exact hR c c0 c1 c2
theorem sc_Pool_change : FnScope ["self", "quota", "burst"] ["self", "quota", "burst"] (defScope s_Pool_change) := ⟨rfl, rfl, rfl, by decide +kernel, rfl, by decide +kernel, by decide +kernel⟩
set_option maxHeartbeats 8000000 in
theorem ok_Pool_change {f : Addr} {fd : FuncData}
    {CPool : Addr}
    (F : FunA K "change" "Pool.change" s_Pool_change f fd)
    (B : Nm mg)
    (TPool : ClPool K CPool)
    (G_Pool_cut_to : GMt P w K mg base 1 CPool "cut_to" 1 (sp_Pool_cut_to CPool)) :
    FnD P w K mg base CX0 2 f fd ["self", "quota", "burst"] (sp_Pool_change CPool) := by
  have nd := sc_Pool_change.nd
  refine fnD F sc_Pool_change (fun _ _ _ _ q => q.1) fun cdv A outer s H E hr gd => ⟨_, (s_cons (s_asg (d_tup (da_cons (dv 1) (da_cons (dv 2) da_nil))) (g_tup rfl (gs_cons (g_fld (dv 0) TPool.cl TPool.n_quota) (gs_cons (g_fld (dv 0) TPool.cl TPool.n_burst) gs_nil))))
        (s_one (s_ret (d_mt (dv 0) TPool.cl G_Pool_cut_to (hr.mono (by decide)) gd (da_cons (d_bin o_add (dv 1) (dv 2)) da_nil))))), ?_⟩
  rintro ds h R RE okh okd ⟨_, n, q, t, b, q', b', rfl, hn, hR⟩
  walk_at "start"
  walk_at "go"
  refine ⟨rfl, n, q', t, b', q' + b', rfl, look_set (look_set hn), fun c c0 c1 c2 => ?_⟩
  simp only [List.set_set]
  exact Or.inl (hR c c0 c1 c2)
theorem sc_law_deck : FnScope ["_law_script", "_law_k", "_law_cell"] ["_law_script", "_law_k"] (defScope s_law_deck) := ⟨rfl, rfl, rfl, by decide +kernel, rfl, by decide +kernel, by decide +kernel⟩
set_option maxHeartbeats 8000000 in
theorem ok_law_deck {f : Addr} {fd : FuncData}
    (F : FunA K "_law_deck" "_law_deck" s_law_deck f fd)
    (B : Nm mg) :
    FnD P w K mg base CX0 1 f fd ["_law_script", "_law_k"] sp_law_deck := by
  have nd := sc_law_deck.nd
  refine fnD F sc_law_deck (fun _ _ _ _ q => q.1) fun cdv A outer s H E hr gd => ⟨_, (s_cons (s_set (i := 2) nd rfl (Or.inl rfl) d_int)
        (s_cons (s_if (t_cmp o_lt (dv 1) (d_callB o_len rfl B.b_len b_len (da_cons (dv 0) da_nil)))
            (s_one (s_set (i := 2) nd rfl (Or.inl rfl) (d_callB (o_max2 rfl) rfl B.b_max b_max (da_cons d_int (da_cons (d_ix (dv 0) (dv 1)) da_nil)))))
            s_nil)
        (s_one (s_ret (d_lstN (da_cons (d_bin o_mul (dv 2) (d_callTy o_int rfl B.b_int b_int (da_cons (d_cmp o_ge (dv 2) (d_bin o_pow d_int d_int)) da_nil))) (da_cons (d_bin o_add (d_bin o_mod (dv 2) d_int) (d_bin o_mul d_int (dv 1))) (da_cons d_int da_nil)))))))), ?_⟩
  rintro ds h R RE okh okd ⟨_, ns, k, rfl, k0, hR⟩
  walk_at "start"
  walk_at "go"
  refine r_ite (fun hk => ?_) (fun hk => ?_)
  · walk_at "go"
    rw [List.length_map] at hk
    obtain ⟨c, hc, hm⟩ := at_in (ds := ns.map D.int) k0 (by rw [List.length_map]; exact hk)
    obtain ⟨x, _, rfl⟩ := List.mem_map.mp hm
    refine r_ixZ hc ?_
    walk_at "go"
    exact Or.inl (hR _ ⟨_, _, _, rfl⟩)
  · walk_at "go"
    exact Or.inl (hR _ ⟨_, _, _, rfl⟩)
theorem sc_law_draw : FnScope ["_law_deck_here", "_law_ways", "_law_digit", "_law_number"] ["_law_deck_here", "_law_ways"] (defScope s_law_draw) := ⟨rfl, rfl, rfl, by decide +kernel, rfl, by decide +kernel, by decide +kernel⟩
set_option maxHeartbeats 8000000 in
theorem ok_law_draw {f : Addr} {fd : FuncData}
    (F : FunA K "_law_draw" "_law_draw" s_law_draw f fd)
    (B : Nm mg) :
    FnD P w K mg base CX0 1 f fd ["_law_deck_here", "_law_ways"] sp_law_draw := by
  have nd := sc_law_draw.nd
  refine fnD F sc_law_draw (fun _ _ _ _ q => q.1) fun cdv A outer s H E hr gd => ⟨_, (s_cons (s_if (t_cmp o_gt (d_ix (dv 0) d_int) d_int)
            (s_cons (s_set (i := 2) nd rfl (Or.inl rfl) (d_bin o_mod (d_ix (dv 0) d_int) (dv 1)))
            (s_cons (s_asg (d_bin o_div (d_ix (dv 0) d_int) (dv 1)) (g_subL (dv 0) d_int))
            (s_one (s_ret (dv 2)))))
            s_nil)
        (s_cons (s_asg (d_bin o_add (d_ix (dv 0) d_int) d_int) (g_subL (dv 0) d_int))
        (s_cons (s_set (i := 3) nd rfl (Or.inl rfl) (d_bin o_mod (d_bin o_mul (d_bin o_add (d_ix (dv 0) d_int) (d_bin o_mul d_int (d_ix (dv 0) d_int))) d_int) d_int))
        (s_cons (s_set (i := 3) nd rfl (Or.inl rfl) (d_bin o_mod (d_bin o_add (d_bin o_add (d_bin o_mul (dv 3) (dv 3)) (d_bin o_mul d_int (d_ix (dv 0) d_int))) d_int) d_int))
        (s_one (s_ret (d_bin o_mod (d_bin o_div (d_bin o_mod (d_bin o_add (d_bin o_mul (dv 3) (dv 3)) d_int) d_int) d_int) (dv 1)))))))), ?_⟩
  rintro ds h R RE okh okd ⟨_, i, w, rfl, ⟨o, hi, x, y, z, rfl⟩, w0, w1, hR⟩
  walk_at "start"
  walk_at "go"
  refine r_ite (fun hx => ?_) (fun hx => ?_)
  · walk_at "go"
    exact Or.inl (hR _ _ ⟨_, _, _, rfl⟩ (mod_range w0).1 (mod_range w0).2)
  · walk_at "go"
    exact Or.inl (hR _ _ ⟨_, _, _, rfl⟩ (mod_range w0).1 (mod_range w0).2)
theorem sc_law_pool_size : FnScope ["_law_deck_here"] ["_law_deck_here"] (defScope s_law_pool_size) := ⟨rfl, rfl, rfl, by decide +kernel, rfl, by decide +kernel, by decide +kernel⟩
set_option maxHeartbeats 8000000 in
theorem ok_law_pool_size {f : Addr} {fd : FuncData}
    (F : FunA K "_law_pool_size" "_law_pool_size" s_law_pool_size f fd)
    (B : Nm mg)
    (G_law_draw : GFn P w K mg base 1 "_law_draw" 2 sp_law_draw) :
    FnD P w K mg base CX0 2 f fd ["_law_deck_here"] sp_law_pool_size := by
  have nd := sc_law_pool_size.nd
  refine fnD F sc_law_pool_size (fun _ _ _ _ q => q.1) fun cdv A outer s H E hr gd => ⟨_, (s_one (s_ret (d_ix (d_lst (da_cons (d_bin o_add d_int (d_fn G_law_draw (hr.mono (by decide)) gd rfl (da_cons (dv 0) (da_cons d_int da_nil)))) (da_cons d_int (da_cons d_int (da_cons d_int (da_cons d_int (da_cons d_int (da_cons (d_bin o_add d_int (d_fn G_law_draw (hr.mono (by decide)) gd rfl (da_cons (dv 0) (da_cons d_int da_nil)))) da_nil)))))))) (d_fn G_law_draw (hr.mono (by decide)) gd rfl (da_cons (dv 0) (da_cons d_int da_nil)))))), ?_⟩
  rintro ds h R RE okh okd ⟨_, i, rfl, hd, hR⟩
  walk_at "start"
  walk_at "go"
  refine r_draw hd (by decide) (by decide) fun v1 o1 ho1 v10 v11 => ?_
  walk_at "go"
  refine r_draw (hd.set ho1) (by decide) (by decide) fun v2 o2 ho2 v20 v21 => ?_
  walk_at "go"
  refine r_draw ((hd.set ho1).set ho2) (by decide) (by decide) fun v3 o3 ho3 v30 v31 => ?_
  obtain ⟨c, hc, hm⟩ := at_in (ds := [.int (1 + v1), .int 9, .int 10, .int 99, .int 100, .int 1000, .int (1 + v2)]) v30 v31
  refine r_ixL hc ?_
  simp only [List.set_set]
  simp only [List.mem_cons, List.not_mem_nil, or_false] at hm
  rcases hm with rfl | rfl | rfl | rfl | rfl | rfl | rfl
  all_goals exact Or.inl (hR _ _ ho3 (by omega) (by omega))
theorem sc_law_told : FnScope ["_law_pool", "_law_kept", "_law_told_here"] ["_law_pool", "_law_kept"] (defScope s_law_told) := ⟨rfl, rfl, rfl, by decide +kernel, rfl, by decide +kernel, by decide +kernel⟩
set_option maxHeartbeats 8000000 in
theorem ok_law_told {f : Addr} {fd : FuncData}
    {CPool : Addr}
    (F : FunA K "_law_told" "_law_told" s_law_told f fd)
    (B : Nm mg)
    (TPool : ClPool K CPool)
    (G_Pool___len__ : GMt P w K mg base 1 CPool "__len__" 0 (sp_Pool___len__ CPool)) :
    FnD P w K mg base CX0 5 f fd ["_law_pool", "_law_kept"] (sp_law_told CPool) := by
  have nd := sc_law_told.nd
  refine fnD F sc_law_told (fun _ _ _ _ q => q.1) fun cdv A outer s H E hr gd => ⟨_, (s_cons (s_set (i := 2) nd rfl (Or.inl rfl) (d_tup (da_cons (d_fld (dv 0) TPool.cl TPool.n_quota) (da_cons (d_fld (dv 0) TPool.cl TPool.n_burst) (da_cons (d_fld (dv 0) TPool.cl TPool.n_there) (da_cons (d_callB (o_lenOwn G_Pool___len__ (hr.mono (by decide)) gd) rfl B.b_len b_len (da_cons (dv 0) da_nil)) (da_cons (d_callTy (o_boolOwn G_Pool___len__ TPool.n___bool__ (hr.mono (by decide)) gd) rfl B.b_bool b_bool (da_cons (dv 0) da_nil)) da_nil)))))))
        (s_one (s_ret (d_cmp (o_eq hr.units) (d_callB (o_repr hr gd) rfl B.b_repr b_repr (da_cons (dv 2) da_nil)) (d_callB (o_repr hr gd) rfl B.b_repr b_repr (da_cons (d_tup (da_cons (d_ix (dv 1) d_int) (da_cons (d_ix (dv 1) d_int) (da_cons (d_ix (dv 1) d_int) (da_cons (d_ix (dv 1) d_int) (da_cons (d_cmp o_gt (d_ix (dv 1) d_int) d_int) da_nil)))))) da_nil)))))), ?_⟩
  rintro ds h R RE okh okd ⟨_, n, k, q, t, b, rfl, hn, hk, ⟨q0, q1, b0, b1, t0, t1⟩, hR⟩
  walk_at "start"
  walk_at "go"
  refine r_lenPool hn t0 (by omega) ?_
  walk_at "go"
  refine r_boolPool hn t0 (by omega) ?_
  walk_at "go"
  refine r_reprS rfl (sh_tup (sha_cons (sh_i (by omega) (by omega)) (sha_cons (sh_i (by omega) (by omega)) (sha_cons (sh_i (by omega) (by omega)) (sha_cons (sh_i (by omega) (by omega)) (sha_cons sh_bool sha_nil)))))) (by decide) (by decide) ?_
  walk_at "go"
  refine r_reprS rfl (sh_tup (sha_cons (sh_i (by omega) (by omega)) (sha_cons (sh_i (by omega) (by omega)) (sha_cons (sh_i (by omega) (by omega)) (sha_cons (sh_i (by omega) (by omega)) (sha_cons sh_bool sha_nil)))))) (by decide) (by decide) ?_
  walk_at "go"
  have e : (t != 0) = decide (0 < t) := by
    by_cases z : t = 0
    · subst z
      rfl
    · rw [bne_iff_ne.mpr z, decide_eq_true (by omega)]
  rw [e]
  exact Or.inl (same_repr rfl hR)
theorem sc_law_cut : FnScope ["_law_kept", "_law_most", "_law_cut_here"] ["_law_kept", "_law_most"] (defScope s_law_cut) := ⟨rfl, rfl, rfl, by decide +kernel, rfl, by decide +kernel, by decide +kernel⟩
set_option maxHeartbeats 8000000 in
theorem ok_law_cut {f : Addr} {fd : FuncData}
    (F : FunA K "_law_cut" "_law_cut" s_law_cut f fd)
    (B : Nm mg) :
    FnD P w K mg base CX0 1 f fd ["_law_kept", "_law_most"] sp_law_cut := by
  have nd := sc_law_cut.nd
  refine fnD F sc_law_cut (fun _ _ _ _ q => q.1) fun cdv A outer s H E hr gd => ⟨_, (s_cons (s_set (i := 2) nd rfl (Or.inl rfl) (d_callB (o_max2 rfl) rfl B.b_max b_max (da_cons d_int (da_cons (d_bin o_sub (d_ix (dv 0) d_int) (dv 1)) da_nil))))
        (s_cons (s_asg (d_bin o_sub (d_ix (dv 0) d_int) (dv 2)) (g_subL (dv 0) d_int))
        (s_one (s_ret (dv 2))))), ?_⟩
  rintro ds h R RE okh okd ⟨_, k, q, b, t, m, rfl, hk, hR⟩
  walk_at "start"
  walk_at "go"
  refine Or.inl (hR _ ?_ ?_ ?_)
  all_goals split <;> omega
theorem sc_law_deed_right : FnScope ["_law_deck_here", "_law_pool", "_law_kept", "_law_way", "_law_many", "_law_due", "_law_cut_here", "_law_more"] ["_law_deck_here", "_law_pool", "_law_kept"] (defScope s_law_deed_right) := ⟨rfl, rfl, rfl, by decide +kernel, rfl, by decide +kernel, by decide +kernel⟩
set_option maxHeartbeats 8000000 in
theorem ok_law_deed_right {f : Addr} {fd : FuncData}
    {CPool : Addr}
    (F : FunA K "_law_deed_right" "_law_deed_right" s_law_deed_right f fd)
    (B : Nm mg)
    (TPool : ClPool K CPool)
    (G_law_draw : GFn P w K mg base 1 "_law_draw" 2 sp_law_draw)
    (G_Pool_take : GMt P w K mg base 1 CPool "take" 1 (sp_Pool_take CPool))
    (G_Pool_give : GMt P w K mg base 1 CPool "give" 1 (sp_Pool_give CPool))
    (G_law_cut : GFn P w K mg base 1 "_law_cut" 2 sp_law_cut)
    (G_Pool_fill : GMt P w K mg base 2 CPool "fill" 0 (sp_Pool_fill CPool))
    (G_law_pool_size : GFn P w K mg base 2 "_law_pool_size" 1 sp_law_pool_size)
    (G_Pool_change : GMt P w K mg base 2 CPool "change" 2 (sp_Pool_change CPool)) :
    FnD P w K mg base CX0 3 f fd ["_law_deck_here", "_law_pool", "_law_kept"] (sp_law_deed_right CPool) := by
  have nd := sc_law_deed_right.nd
  refine fnD F sc_law_deed_right (fun _ _ _ _ q => q.1) fun cdv A outer s H E hr gd => ⟨_, (s_cons (s_set (i := 3) nd rfl (Or.inl rfl) (d_fn G_law_draw (hr.mono (by decide)) gd rfl (da_cons (dv 0) (da_cons d_int da_nil))))
        (s_cons (s_if (t_cmp o_lt (dv 3) d_int)
            (s_cons (s_set (i := 4) nd rfl (Or.inl rfl) (d_ix (d_lst (da_cons d_int (da_cons (d_fn G_law_draw (hr.mono (by decide)) gd rfl (da_cons (dv 0) (da_cons d_int da_nil))) (da_cons (d_ix (dv 2) d_int) (da_cons (d_bin o_add (d_ix (dv 2) d_int) d_int) (da_cons (d_bin o_pow d_int d_int) da_nil)))))) (d_fn G_law_draw (hr.mono (by decide)) gd rfl (da_cons (dv 0) (da_cons d_int da_nil)))))
            (s_cons (s_set (i := 5) nd rfl (Or.inl rfl) (d_callB (o_min2 rfl) rfl B.b_min b_min (da_cons (dv 4) (da_cons (d_ix (dv 2) d_int) da_nil))))
            (s_cons (s_asg (d_bin o_sub (d_ix (dv 2) d_int) (dv 5)) (g_subL (dv 2) d_int))
            (s_one (s_ret (d_cmp (o_eq hr.units) (d_callB (o_repr hr gd) rfl B.b_repr b_repr (da_cons (d_mt (dv 1) TPool.cl G_Pool_take (hr.mono (by decide)) gd (da_cons (dv 4) da_nil)) da_nil)) (d_callB (o_repr hr gd) rfl B.b_repr b_repr (da_cons (dv 5) da_nil))))))))
            s_nil)
        (s_cons (s_if (t_cmp o_lt (dv 3) d_int)
            (s_cons (s_set (i := 4) nd rfl (Or.inl rfl) (d_ix (d_lst (da_cons d_int (da_cons d_int (da_cons (d_fn G_law_draw (hr.mono (by decide)) gd rfl (da_cons (dv 0) (da_cons d_int da_nil))) da_nil)))) (d_fn G_law_draw (hr.mono (by decide)) gd rfl (da_cons (dv 0) (da_cons d_int da_nil)))))
            (s_cons (s_asg (d_bin o_add (d_ix (dv 2) d_int) (dv 4)) (g_subL (dv 2) d_int))
            (s_one (s_ret (d_cmp o_isN (d_mt (dv 1) TPool.cl G_Pool_give (hr.mono (by decide)) gd (da_cons (dv 4) da_nil)) d_non)))))
            s_nil)
        (s_cons (s_if (t_cmp o_lt (dv 3) d_int)
            (s_cons (s_set (i := 6) nd rfl (Or.inl rfl) (d_fn G_law_cut (hr.mono (by decide)) gd rfl (da_cons (dv 2) (da_cons (d_ix (dv 2) d_int) da_nil))))
            (s_cons (s_asg (d_bin o_add (d_ix (dv 2) d_int) (d_ix (dv 2) d_int)) (g_subL (dv 2) d_int))
            (s_one (s_ret (d_cmp (o_eq hr.units) (d_callB (o_repr hr gd) rfl B.b_repr b_repr (da_cons (d_mt0 (dv 1) TPool.cl G_Pool_fill (hr.mono (by decide)) gd) da_nil)) (d_callB (o_repr hr gd) rfl B.b_repr b_repr (da_cons (dv 6) da_nil)))))))
            s_nil)
        (s_cons (s_set (i := 7) nd rfl (Or.inl rfl) (d_ix (d_lst (da_cons (d_tup (da_cons (d_ix (dv 2) d_int) (da_cons (d_ix (dv 2) d_int) da_nil))) (da_cons (d_tup (da_cons (d_fn G_law_pool_size (hr.mono (by decide)) gd rfl (da_cons (dv 0) da_nil)) (da_cons (d_bin o_sub (d_fn G_law_pool_size (hr.mono (by decide)) gd rfl (da_cons (dv 0) da_nil)) d_int) da_nil))) da_nil))) (d_fn G_law_draw (hr.mono (by decide)) gd rfl (da_cons (dv 0) (da_cons d_int da_nil)))))
        (s_cons (s_asg (dv 7) (g_tup rfl (gs_cons (g_subL (dv 2) d_int) (gs_cons (g_subL (dv 2) d_int) gs_nil))))
        (s_one (s_ret (d_cmp (o_eq hr.units) (d_callB (o_repr hr gd) rfl B.b_repr b_repr (da_cons (d_mt (dv 1) TPool.cl G_Pool_change (hr.mono (by decide)) gd (da_cons (d_ix (dv 7) d_int) (da_cons (d_ix (dv 7) d_int) da_nil))) da_nil)) (d_callB (o_repr hr gd) rfl B.b_repr b_repr (da_cons (d_fn G_law_cut (hr.mono (by decide)) gd rfl (da_cons (dv 2) (da_cons (d_bin o_add (d_ix (dv 7) d_int) (d_ix (dv 7) d_int)) da_nil))) da_nil))))))))))), ?_⟩
  rintro ds h R RE okh okd ⟨_, g, i, n, k, o, q, b, t, m, rfl, T, rfl, ho, m0, m1, ⟨q0, q1, b0, b1, t0, t1⟩, hR⟩
  walk_at "start"
  walk_at "go"
  refine r_draw ⟨o, h3_i T, ho⟩ (by decide) (by decide) fun v1 o1 ho1 v10 v11 => ?_
  rw [h3_si T]
  walk_at "go"
  refine r_ite (fun hw3 => ?_) (fun hw3 => ?_)
  · walk_at "go"
    refine r_draw ⟨o1, h3_i T, ho1⟩ (by decide) (by decide) fun v2 o2 ho2 v20 v21 => ?_
    rw [h3_si T]
    walk_at "go"
    refine r_draw ⟨o2, h3_i T, ho2⟩ (by decide) (by decide) fun v3 o3 ho3 v30 v31 => ?_
    rw [h3_si T]
    obtain ⟨c, hc, hm⟩ := at_in (ds := [.int 0, .int v2, .int t, .int (t + 1), .int (10 ^ Int.toNat 6)]) v30 v31
    obtain ⟨mm, rfl, mm0, mm1⟩ : ∃ mm, c = .int mm ∧ 0 ≤ mm ∧ mm ≤ 10 ^ 7 := by
      simp only [List.mem_cons, List.not_mem_nil, or_false] at hm
      rcases hm with rfl | rfl | rfl | rfl | rfl
      · exact ⟨_, rfl, by omega, by omega⟩
      · exact ⟨_, rfl, by omega, by omega⟩
      · exact ⟨_, rfl, by omega, by omega⟩
      · exact ⟨_, rfl, by omega, by omega⟩
      · exact ⟨_, rfl, by decide, by decide⟩
    refine r_ixL hc ?_
    walk_at "go"
    simp only [h3_sk, List.set_cons_succ, List.set_cons_zero]
    walk_at "go"
    refine r_take (h3_n T) fun c ca cb cc => ?_
    rw [h3_sn T]
    have ec : c = (if t < mm then t else mm) := by split <;> omega
    rw [← ec]
    walk_at "go"
    refine r_repr rfl (showI' (by omega) (by omega)) ?_
    walk_at "go"
    refine r_repr rfl (showI' (by omega) (by omega)) ?_
    walk_at "go"
    exact Or.inl (same_repr rfl (hR o3 q b (t - c) ho3 ⟨q0, q1, b0, b1, by omega, by omega⟩))
  · walk_at "go"
    refine r_ite (fun hw5 => ?_) (fun hw5 => ?_)
    · walk_at "go"
      refine r_draw ⟨o1, h3_i T, ho1⟩ (by decide) (by decide) fun v2 o2 ho2 v20 v21 => ?_
      rw [h3_si T]
      walk_at "go"
      refine r_draw ⟨o2, h3_i T, ho2⟩ (by decide) (by decide) fun v3 o3 ho3 v30 v31 => ?_
      rw [h3_si T]
      obtain ⟨c, hc, hm⟩ := at_in (ds := [.int 0, .int 1, .int v2]) v30 v31
      obtain ⟨mm, rfl, mm0, mm1⟩ : ∃ mm, c = .int mm ∧ 0 ≤ mm ∧ mm ≤ 99 := by
        simp only [List.mem_cons, List.not_mem_nil, or_false] at hm
        rcases hm with rfl | rfl | rfl
        all_goals exact ⟨_, rfl, by omega, by omega⟩
      refine r_ixL hc ?_
      walk_at "go"
      simp only [h3_sk, List.set_cons_succ, List.set_cons_zero]
      walk_at "go"
      refine r_give (h3_n T) ?_
      rw [h3_sn T]
      walk_at "go"
      exact Or.inl (hR o3 q b (t + mm) ho3 ⟨q0, q1, b0, b1, by omega, by omega⟩)
    · walk_at "go"
      refine r_ite (fun hw7 => ?_) (fun hw7 => ?_)
      · walk_at "go"
        refine ⟨rfl, k, q, b, t, b, rfl, h3_k T, fun c c0 c1 c2 => ?_⟩
        rw [h3_sk]
        walk_at "go"
        simp only [h3_sk, List.set_cons_succ, List.set_cons_zero]
        walk_at "go"
        refine r_fill (h3_n T) fun f f0 f1 f2 => ?_
        rw [h3_sn T]
        obtain rfl : f = c := by omega
        walk_at "go"
        refine r_repr rfl (showI' (by omega) (by omega)) ?_
        walk_at "go"
        refine r_repr rfl (showI' (by omega) (by omega)) ?_
        walk_at "go"
        exact Or.inl (same_repr rfl (hR o1 q b (t - f + q) ho1 ⟨q0, q1, b0, b1, by omega, by omega⟩))
      · walk_at "go"
        refine ⟨rfl, i, rfl, ⟨o1, h3_i T, ho1⟩, fun s1 o2 ho2 s10 s11 => ?_⟩
        rw [h3_si T]
        walk_at "go"
        refine ⟨rfl, i, rfl, ⟨o2, h3_i T, ho2⟩, fun s2 o3 ho3 s20 s21 => ?_⟩
        rw [h3_si T]
        walk_at "go"
        refine r_draw ⟨o3, h3_i T, ho3⟩ (by decide) (by decide) fun v2 o4 ho4 v20 v21 => ?_
        rw [h3_si T]
        obtain ⟨c, hc, hm⟩ := at_in (ds := [.tup [.int q, .int b], .tup [.int s1, .int (s2 - 1)]]) v20 v21
        obtain ⟨q', b', rfl, q0', q1', b0', b1'⟩ : ∃ q' b', c = .tup [.int q', .int b'] ∧ 1 ≤ q' ∧ q' ≤ 1000 ∧ 0 ≤ b' ∧ b' ≤ 1000 := by
          simp only [List.mem_cons, List.not_mem_nil, or_false] at hm
          rcases hm with rfl | rfl
          all_goals exact ⟨_, _, rfl, by omega, by omega, by omega, by omega⟩
        refine r_ixL hc ?_
        walk_at "go"
        simp only [h3_sk, List.set_cons_succ, List.set_cons_zero]
        walk_at "go"
        refine ⟨rfl, n, q, t, b, q', b', rfl, h3_n T, fun c c0 c1 c2 => ?_⟩
        rw [h3_sn T]
        walk_at "go"
        refine r_repr rfl (showI' (by omega) (by omega)) ?_
        walk_at "go"
        refine ⟨rfl, k, q', b', t, q' + b', rfl, h3_k T, fun f f0 f1 f2 => ?_⟩
        rw [h3_sk]
        obtain rfl : f = c := by omega
        walk_at "go"
        refine r_repr rfl (showI' (by omega) (by omega)) ?_
        walk_at "go"
        exact Or.inl (same_repr rfl (hR o4 q' b' (t - f) ho4 ⟨q0', q1', b0', b1', by omega, by omega⟩))
theorem sc_law : FnScope ["_law_script", "_law_k", "_law_deck_here", "_law_left_out", "_law_size", "_law_over", "_law_pool", "_law_kept", "_law_turn"] ["_law_script"] (defScope s_law) := ⟨rfl, rfl, rfl, by decide +kernel, rfl, by decide +kernel, by decide +kernel⟩
set_option maxHeartbeats 8000000 in
theorem ok_law {f : Addr} {fd : FuncData}
    {CPool : Addr}
    (F : FunA K "law" "law" s_law f fd)
    (B : Nm mg)
    (TPool : ClPool K CPool)
    (G_law_deck : GFn P w K mg base 1 "_law_deck" 2 sp_law_deck)
    (G_law_draw : GFn P w K mg base 1 "_law_draw" 2 sp_law_draw)
    (G_law_pool_size : GFn P w K mg base 2 "_law_pool_size" 1 sp_law_pool_size)
    (G_law_told : GFn P w K mg base 5 "_law_told" 2 (sp_law_told CPool))
    (G_law_deed_right : GFn P w K mg base 3 "_law_deed_right" 3 (sp_law_deed_right CPool))
    (M_Pool_burst_1 : GMk P w K mg base 1 "Pool" CPool 1 ["burst"] (fun ds es => ds ++ es) (sp_Pool___init__ CPool))
    (M_Pool_1 : GMk P w K mg base 1 "Pool" CPool 1 [] (fun ds _ => ds ++ [.int 0]) (sp_Pool___init__ CPool)) :
    FnD P w K mg base CX0 6 f fd ["_law_script"] spLaw := by
  have nd := sc_law.nd
  refine fnD F sc_law (fun _ _ _ _ q => by obtain ⟨ns, rfl, _⟩ := q; rfl) fun cdv A outer s H E hr gd => ⟨_, (s_cons (s_for PassesOwn.never rfl (i_range1 rfl B.b_range (d_callB (o_max2 rfl) rfl B.b_max b_max (da_cons d_int (da_cons (d_callB (o_min2 rfl) rfl B.b_min b_min (da_cons (d_callB o_len rfl B.b_len b_len (da_cons (dv 0) da_nil)) (da_cons d_int da_nil))) da_nil)))) (g_name (i := 1) nd rfl (Or.inl rfl))
            (s_cons (s_set (i := 2) nd rfl (Or.inl rfl) (d_fn G_law_deck (hr.mono (by decide)) gd rfl (da_cons (dv 0) (da_cons (dv 1) da_nil))))
            (s_cons (s_set (i := 3) nd rfl (Or.inl rfl) (d_cmp (o_eq hr.units) (d_fn G_law_draw (hr.mono (by decide)) gd rfl (da_cons (dv 2) (da_cons d_int da_nil))) d_int))
            (s_cons (s_par (i := 4) (j := 5) rfl nd rfl rfl (by decide) rfl rfl (da_cons (d_fn G_law_pool_size (hr.mono (by decide)) gd rfl (da_cons (dv 2) da_nil)) (da_cons (d_bin o_sub (d_fn G_law_pool_size (hr.mono (by decide)) gd rfl (da_cons (dv 2) da_nil)) d_int) da_nil)) rfl)
            (s_cons (s_par (i := 6) (j := 7) rfl nd rfl rfl (by decide) rfl rfl (da_cons (d_mkK M_Pool_burst_1 (hr.mono (by decide)) gd rfl (da_cons (dv 4) da_nil) (k_cons (dv 5) k_nil)) (da_cons (d_lstN (da_cons (dv 4) (da_cons (dv 5) (da_cons (dv 4) da_nil)))) da_nil)) rfl)
            (s_cons (s_if (t_val (dv 3))
                (s_one (s_par (i := 6) (j := 7) rfl nd rfl rfl (by decide) rfl rfl (da_cons (d_mk M_Pool_1 (hr.mono (by decide)) gd rfl (da_cons (dv 4) da_nil)) (da_cons (d_lstN (da_cons (dv 4) (da_cons d_int (da_cons (dv 4) da_nil)))) da_nil)) rfl))
                s_nil)
            (s_cons (s_if (t_not (t_val (d_fn G_law_told (hr.mono (by decide)) gd rfl (da_cons (dv 6) (da_cons (dv 7) da_nil)))))
                (s_one (s_ret d_bl))
                s_nil)
            (s_one (s_for PassesOwn.never rfl (i_range1 rfl B.b_range d_int) (g_name (i := 8) nd rfl (Or.inl rfl))
              (s_one (s_if (t_w (w_or (t_not (t_val (d_fn G_law_deed_right (hr.mono (by decide)) gd rfl (da_cons (dv 2) (da_cons (dv 6) (da_cons (dv 7) da_nil)))))) (w_or (t_not (t_val (d_fn G_law_told (hr.mono (by decide)) gd rfl (da_cons (dv 6) (da_cons (dv 7) da_nil))))) (w_or1 (t_not (t_val (d_fn G_law_told (hr.mono (by decide)) gd rfl (da_cons (dv 6) (da_cons (dv 7) da_nil)))))))))
                (s_one (s_ret d_bl))
                s_nil)))))))))))
        (s_one (s_ret d_bl))), ?_⟩
  rintro ds h R RE okh okd ⟨ns, rfl, rfl, hns, hR⟩
  walk_at "start"
  walk_at "go"
  have key : ∀ x : Int, 0 ≤ x → -2 ^ 62 ≤ (if (if 4 < x then 4 else x) > 2 then (if 4 < x then 4 else x) else 2) ∧ (if (if 4 < x then 4 else x) > 2 then (if 4 < x then 4 else x) else 2) < 2 ^ 62 := by
    intro x hx
    constructor <;> (repeat' split) <;> omega
  refine ⟨(key _ (by omega)).1, (key _ (by omega)).2, fun k δ h' => δ = some (.scr (ns.map D.int)) :: List.replicate 8 none ∧ h' = [], ⟨rfl, rfl⟩, fun _ _ _ _ _ => trivial, ?_, ?_⟩
  · rintro k d δ h' e ⟨rfl, rfl⟩
    have e' := range_at e
    subst e'
    simp only [List.replicate]
    walk_at "go"
    refine ⟨rfl, ns, k, rfl, by omega, fun o ho => ?_⟩
    simp only [List.nil_append, List.length_nil]
    walk_at "go"
    refine r_draw ⟨o, rfl, ho⟩ (by decide) (by decide) fun v1 o1 ho1 v10 v11 => ?_
    simp only [List.set_cons_zero]
    walk_at "go"
    refine ⟨rfl, 0, rfl, ⟨o1, rfl, ho1⟩, fun s1 o2 ho2 s10 s11 => ?_⟩
    simp only [List.set_cons_zero]
    walk_at "go"
    refine ⟨rfl, 0, rfl, ⟨o2, rfl, ho2⟩, fun s2 o3 ho3 s20 s21 => ?_⟩
    simp only [List.set_cons_zero]
    walk_at "go"
    refine ⟨rfl, rfl, rfl, _, s1, s2 - 1, rfl, rfl, rfl, ?_⟩
    simp only [List.cons_append, List.nil_append, List.length_cons, List.length_nil, Nat.reduceAdd, List.set_cons_zero, List.set_cons_succ]
    walk_at "go"
    refine r_ite (fun hl => ?_) (fun hl => ?_)
    · walk_at "go"
      refine ⟨rfl, rfl, rfl, _, s1, 0, rfl, rfl, rfl, ?_⟩
      simp only [List.cons_append, List.nil_append, List.length_cons, List.length_nil, Nat.reduceAdd, List.set_cons_zero, List.set_cons_succ]
      walk_at "go"
      refine ⟨rfl, 3, 4, s1, s1, 0, rfl, rfl, rfl, ⟨s10, s11, by omega, by omega, by omega, by omega⟩, ?_⟩
      walk_at "go"
      refine ⟨by decide, by decide, fun j δ h' => ∃ g n kk o q b t, T3 g 0 n kk ∧ DeckO o ∧ Bd q b t j ∧ h' = H3 g 0 n kk o (poolO CPool q t b) (keptO q b t) ∧
        δ = [some (.scr (ns.map D.int)), some (.int k), some (.ref 0), some (.bl (decide (v1 = 1))), some (.int s1), some (.int (s2 - 1)), some (.ref n), some (.ref kk), none],
        ⟨[o3, poolO CPool s1 s1 (s2 - 1), keptO s1 (s2 - 1) s1, poolO CPool s1 s1 0, keptO s1 0 s1], 3, 4, o3, s1, 0, s1, ⟨by simp, by simp, by simp, by decide, by decide, by decide⟩, ho3, ⟨s10, s11, by omega, by omega, by omega, by omega⟩, rfl, rfl⟩, fun _ _ _ _ _ => trivial, ?_, ?_⟩
      · rintro j d δ h' e ⟨g, n, kk, o, q, b, t, T, ho, bd, rfl, rfl⟩
        have hj := range_lt e
        have hj' : j < 40 := hj
        have e' := range_at e
        subst e'
        walk_at "go"
        refine ⟨rfl, g, 0, n, kk, o, q, b, t, j, rfl, T, rfl, ho, by omega, by omega, bd, fun o' q' b' t' ho' bd' => ?_⟩
        walk_at "go"
        refine ⟨rfl, n, kk, q', t', b', rfl, h3_n T, h3_k T, ⟨bd'.q0, bd'.q1, bd'.b0, bd'.b1, bd'.t0, by have := bd'.t1; omega⟩, ?_⟩
        walk_at "go"
        refine ⟨rfl, n, kk, q', t', b', rfl, h3_n T, h3_k T, ⟨bd'.q0, bd'.q1, bd'.b0, bd'.b1, bd'.t0, by have := bd'.t1; omega⟩, ?_⟩
        walk_at "go"
        refine ⟨[some (.scr (ns.map D.int)), some (.int k), some (.ref 0), some (.bl (decide (v1 = 1))), some (.int s1), some (.int (s2 - 1)), some (.ref n), some (.ref kk), none], _, Drp.keep ?_, g, n, kk, o', q', b', t', T, ho', bd', rfl, rfl⟩
        walk_at "less"
      · rintro δ h' ⟨g, n, kk, o, q, b, t, T, ho, bd, rfl, rfl⟩
        refine ⟨some (.scr (ns.map D.int)) :: List.replicate 8 none, [], Or.inr ⟨?_, ⟨_, rfl⟩, Nat.zero_le _, ?_, trivial⟩, rfl, rfl⟩
        · simp only [List.replicate]
          walk_at "less"
        · exact ⟨okRs_iff.mpr fun d hd => by obtain ⟨x, _, rfl⟩ := List.mem_map.mp hd; trivial, trivial⟩
    · walk_at "go"
      refine ⟨rfl, 1, 2, s1, s1, s2 - 1, rfl, rfl, rfl, ⟨s10, s11, by omega, by omega, by omega, by omega⟩, ?_⟩
      walk_at "go"
      refine ⟨by decide, by decide, fun j δ h' => ∃ g n kk o q b t, T3 g 0 n kk ∧ DeckO o ∧ Bd q b t j ∧ h' = H3 g 0 n kk o (poolO CPool q t b) (keptO q b t) ∧
        δ = [some (.scr (ns.map D.int)), some (.int k), some (.ref 0), some (.bl (decide (v1 = 1))), some (.int s1), some (.int (s2 - 1)), some (.ref n), some (.ref kk), none],
        ⟨[o3, poolO CPool s1 s1 (s2 - 1), keptO s1 (s2 - 1) s1], 1, 2, o3, s1, s2 - 1, s1, ⟨by simp, by simp, by simp, by decide, by decide, by decide⟩, ho3, ⟨s10, s11, by omega, by omega, by omega, by omega⟩, rfl, rfl⟩, fun _ _ _ _ _ => trivial, ?_, ?_⟩
      · rintro j d δ h' e ⟨g, n, kk, o, q, b, t, T, ho, bd, rfl, rfl⟩
        have hj := range_lt e
        have hj' : j < 40 := hj
        have e' := range_at e
        subst e'
        walk_at "go"
        refine ⟨rfl, g, 0, n, kk, o, q, b, t, j, rfl, T, rfl, ho, by omega, by omega, bd, fun o' q' b' t' ho' bd' => ?_⟩
        walk_at "go"
        refine ⟨rfl, n, kk, q', t', b', rfl, h3_n T, h3_k T, ⟨bd'.q0, bd'.q1, bd'.b0, bd'.b1, bd'.t0, by have := bd'.t1; omega⟩, ?_⟩
        walk_at "go"
        refine ⟨rfl, n, kk, q', t', b', rfl, h3_n T, h3_k T, ⟨bd'.q0, bd'.q1, bd'.b0, bd'.b1, bd'.t0, by have := bd'.t1; omega⟩, ?_⟩
        walk_at "go"
        refine ⟨[some (.scr (ns.map D.int)), some (.int k), some (.ref 0), some (.bl (decide (v1 = 1))), some (.int s1), some (.int (s2 - 1)), some (.ref n), some (.ref kk), none], _, Drp.keep ?_, g, n, kk, o', q', b', t', T, ho', bd', rfl, rfl⟩
        walk_at "less"
      · rintro δ h' ⟨g, n, kk, o, q, b, t, T, ho, bd, rfl, rfl⟩
        refine ⟨some (.scr (ns.map D.int)) :: List.replicate 8 none, [], Or.inr ⟨?_, ⟨_, rfl⟩, Nat.zero_le _, ?_, trivial⟩, rfl, rfl⟩
        · simp only [List.replicate]
          walk_at "less"
        · exact ⟨okRs_iff.mpr fun d hd => by obtain ⟨x, _, rfl⟩ := List.mem_map.mp hd; trivial, trivial⟩
  · rintro δ h' ⟨rfl, rfl⟩
    walk_at "go"
    exact Or.inl hR
end

theorem all_mk {l : PySem.W.OpenLaw} {w : World} {K : Fg} {h : Heap} {mg : Str → Option Value} {fa CPool : Addr} (X : K.In h) (G : h.Ns mainGlobals mg) (hfa : mg "law" = some (.ref fa))
    {f_Pool___init__ : Addr} {od_Pool___init__ an_Pool___init__ : Option Addr} {sl_Pool___init__ : Array (Option Value)} {oc_Pool___init__ kV_Pool___init__ dc_Pool___init__ pm_Pool___init__ cd_Pool___init__ ct_Pool___init__ : Value}
    {f_Pool___len__ : Addr} {od_Pool___len__ an_Pool___len__ : Option Addr} {sl_Pool___len__ : Array (Option Value)} {oc_Pool___len__ kV_Pool___len__ dc_Pool___len__ pm_Pool___len__ cd_Pool___len__ ct_Pool___len__ : Value}
    {f_Pool_take : Addr} {od_Pool_take an_Pool_take : Option Addr} {sl_Pool_take : Array (Option Value)} {oc_Pool_take kV_Pool_take dc_Pool_take pm_Pool_take cd_Pool_take ct_Pool_take : Value}
    {f_Pool_give : Addr} {od_Pool_give an_Pool_give : Option Addr} {sl_Pool_give : Array (Option Value)} {oc_Pool_give kV_Pool_give dc_Pool_give pm_Pool_give cd_Pool_give ct_Pool_give : Value}
    {f_Pool_cut_to : Addr} {od_Pool_cut_to an_Pool_cut_to : Option Addr} {sl_Pool_cut_to : Array (Option Value)} {oc_Pool_cut_to kV_Pool_cut_to dc_Pool_cut_to pm_Pool_cut_to cd_Pool_cut_to ct_Pool_cut_to : Value}
    {f_Pool_fill : Addr} {od_Pool_fill an_Pool_fill : Option Addr} {sl_Pool_fill : Array (Option Value)} {oc_Pool_fill kV_Pool_fill dc_Pool_fill pm_Pool_fill cd_Pool_fill ct_Pool_fill : Value}
    {f_Pool_change : Addr} {od_Pool_change an_Pool_change : Option Addr} {sl_Pool_change : Array (Option Value)} {oc_Pool_change kV_Pool_change dc_Pool_change pm_Pool_change cd_Pool_change ct_Pool_change : Value}
    {f_law_deck : Addr} {od_law_deck an_law_deck : Option Addr} {sl_law_deck : Array (Option Value)} {oc_law_deck kV_law_deck dc_law_deck pm_law_deck cd_law_deck ct_law_deck : Value}
    {f_law_draw : Addr} {od_law_draw an_law_draw : Option Addr} {sl_law_draw : Array (Option Value)} {oc_law_draw kV_law_draw dc_law_draw pm_law_draw cd_law_draw ct_law_draw : Value}
    {f_law_pool_size : Addr} {od_law_pool_size an_law_pool_size : Option Addr} {sl_law_pool_size : Array (Option Value)} {oc_law_pool_size kV_law_pool_size dc_law_pool_size pm_law_pool_size cd_law_pool_size ct_law_pool_size : Value}
    {f_law_told : Addr} {od_law_told an_law_told : Option Addr} {sl_law_told : Array (Option Value)} {oc_law_told kV_law_told dc_law_told pm_law_told cd_law_told ct_law_told : Value}
    {f_law_cut : Addr} {od_law_cut an_law_cut : Option Addr} {sl_law_cut : Array (Option Value)} {oc_law_cut kV_law_cut dc_law_cut pm_law_cut cd_law_cut ct_law_cut : Value}
    {f_law_deed_right : Addr} {od_law_deed_right an_law_deed_right : Option Addr} {sl_law_deed_right : Array (Option Value)} {oc_law_deed_right kV_law_deed_right dc_law_deed_right pm_law_deed_right cd_law_deed_right ct_law_deed_right : Value}
    {f_law : Addr} {od_law an_law : Option Addr} {sl_law : Array (Option Value)} {oc_law kV_law dc_law pm_law cd_law ct_law : Value}
    {tb : Tok} {DB : Addr}
    (z_bool : PySem.W.nsIn K mainGlobals "bool" = some none)
    (z_int : PySem.W.nsIn K mainGlobals "int" = some none)
    (z_len : PySem.W.nsIn K mainGlobals "len" = some none)
    (z_max : PySem.W.nsIn K mainGlobals "max" = some none)
    (z_min : PySem.W.nsIn K mainGlobals "min" = some none)
    (z_range : PySem.W.nsIn K mainGlobals "range" = some none)
    (z_repr : PySem.W.nsIn K mainGlobals "repr" = some none)
    (aC_Pool : PySem.W.nsIn K mainGlobals "Pool" = some (some (.ref CPool)))
    (pg_Pool : PySem.W.plainGet K CPool Str.empty = true)
    (hd_Pool : PySem.W.hasDictIn K CPool = true)
    (po_Pool : PySem.W.plainOver K CPool = true)
    (sa_Pool : PySem.W.findIn K (.ref CPool) "__setattr__" = some (some (.builtin "object.__setattr__")))
    (mk_Pool : PySem.W.makesIn K CPool = true)
    (kc_Pool : PySem.W.keepIn K (.ref CPool) = true)
    (n_Pool___bool__ : PySem.W.findIn K (.ref CPool) "__bool__" = some none)
    (n_Pool_burst : PySem.W.findIn K (.ref CPool) "burst" = some none)
    (n_Pool_quota : PySem.W.findIn K (.ref CPool) "quota" = some none)
    (n_Pool_there : PySem.W.findIn K (.ref CPool) "there" = some none)
    (a_Pool___init__ : PySem.W.findIn K (.ref CPool) "__init__" = some (some (.ref f_Pool___init__))) (i_Pool___init__ : PySem.W.isFn K (.ref f_Pool___init__) = true)
    (l_Pool___init__ : K.lookup f_Pool___init__ = some ⟨oc_Pool___init__, od_Pool___init__, .func (PySem.W.fnOf "__init__" "Pool.__init__" (defArgs s_Pool___init__) (defBody s_Pool___init__) (defScope s_Pool___init__) .none kV_Pool___init__ dc_Pool___init__ pm_Pool___init__ an_Pool___init__ cd_Pool___init__ ct_Pool___init__), sl_Pool___init__⟩)
    (c_Pool___init__ : PySem.W.codeIn K cd_Pool___init__ "Pool.__init__" = true) (k_Pool___init__ : PySem.W.keepIn K (.ref f_Pool___init__) = true)
    (a_Pool___len__ : PySem.W.findIn K (.ref CPool) "__len__" = some (some (.ref f_Pool___len__))) (i_Pool___len__ : PySem.W.isFn K (.ref f_Pool___len__) = true)
    (l_Pool___len__ : K.lookup f_Pool___len__ = some ⟨oc_Pool___len__, od_Pool___len__, .func (PySem.W.fnOf "__len__" "Pool.__len__" (defArgs s_Pool___len__) (defBody s_Pool___len__) (defScope s_Pool___len__) .none kV_Pool___len__ dc_Pool___len__ pm_Pool___len__ an_Pool___len__ cd_Pool___len__ ct_Pool___len__), sl_Pool___len__⟩)
    (c_Pool___len__ : PySem.W.codeIn K cd_Pool___len__ "Pool.__len__" = true) (k_Pool___len__ : PySem.W.keepIn K (.ref f_Pool___len__) = true)
    (a_Pool_take : PySem.W.findIn K (.ref CPool) "take" = some (some (.ref f_Pool_take))) (i_Pool_take : PySem.W.isFn K (.ref f_Pool_take) = true)
    (l_Pool_take : K.lookup f_Pool_take = some ⟨oc_Pool_take, od_Pool_take, .func (PySem.W.fnOf "take" "Pool.take" (defArgs s_Pool_take) (defBody s_Pool_take) (defScope s_Pool_take) .none kV_Pool_take dc_Pool_take pm_Pool_take an_Pool_take cd_Pool_take ct_Pool_take), sl_Pool_take⟩)
    (c_Pool_take : PySem.W.codeIn K cd_Pool_take "Pool.take" = true) (k_Pool_take : PySem.W.keepIn K (.ref f_Pool_take) = true)
    (a_Pool_give : PySem.W.findIn K (.ref CPool) "give" = some (some (.ref f_Pool_give))) (i_Pool_give : PySem.W.isFn K (.ref f_Pool_give) = true)
    (l_Pool_give : K.lookup f_Pool_give = some ⟨oc_Pool_give, od_Pool_give, .func (PySem.W.fnOf "give" "Pool.give" (defArgs s_Pool_give) (defBody s_Pool_give) (defScope s_Pool_give) .none kV_Pool_give dc_Pool_give pm_Pool_give an_Pool_give cd_Pool_give ct_Pool_give), sl_Pool_give⟩)
    (c_Pool_give : PySem.W.codeIn K cd_Pool_give "Pool.give" = true) (k_Pool_give : PySem.W.keepIn K (.ref f_Pool_give) = true)
    (a_Pool_cut_to : PySem.W.findIn K (.ref CPool) "cut_to" = some (some (.ref f_Pool_cut_to))) (i_Pool_cut_to : PySem.W.isFn K (.ref f_Pool_cut_to) = true)
    (l_Pool_cut_to : K.lookup f_Pool_cut_to = some ⟨oc_Pool_cut_to, od_Pool_cut_to, .func (PySem.W.fnOf "cut_to" "Pool.cut_to" (defArgs s_Pool_cut_to) (defBody s_Pool_cut_to) (defScope s_Pool_cut_to) .none kV_Pool_cut_to dc_Pool_cut_to pm_Pool_cut_to an_Pool_cut_to cd_Pool_cut_to ct_Pool_cut_to), sl_Pool_cut_to⟩)
    (c_Pool_cut_to : PySem.W.codeIn K cd_Pool_cut_to "Pool.cut_to" = true) (k_Pool_cut_to : PySem.W.keepIn K (.ref f_Pool_cut_to) = true)
    (a_Pool_fill : PySem.W.findIn K (.ref CPool) "fill" = some (some (.ref f_Pool_fill))) (i_Pool_fill : PySem.W.isFn K (.ref f_Pool_fill) = true)
    (l_Pool_fill : K.lookup f_Pool_fill = some ⟨oc_Pool_fill, od_Pool_fill, .func (PySem.W.fnOf "fill" "Pool.fill" (defArgs s_Pool_fill) (defBody s_Pool_fill) (defScope s_Pool_fill) .none kV_Pool_fill dc_Pool_fill pm_Pool_fill an_Pool_fill cd_Pool_fill ct_Pool_fill), sl_Pool_fill⟩)
    (c_Pool_fill : PySem.W.codeIn K cd_Pool_fill "Pool.fill" = true) (k_Pool_fill : PySem.W.keepIn K (.ref f_Pool_fill) = true)
    (a_Pool_change : PySem.W.findIn K (.ref CPool) "change" = some (some (.ref f_Pool_change))) (i_Pool_change : PySem.W.isFn K (.ref f_Pool_change) = true)
    (l_Pool_change : K.lookup f_Pool_change = some ⟨oc_Pool_change, od_Pool_change, .func (PySem.W.fnOf "change" "Pool.change" (defArgs s_Pool_change) (defBody s_Pool_change) (defScope s_Pool_change) .none kV_Pool_change dc_Pool_change pm_Pool_change an_Pool_change cd_Pool_change ct_Pool_change), sl_Pool_change⟩)
    (c_Pool_change : PySem.W.codeIn K cd_Pool_change "Pool.change" = true) (k_Pool_change : PySem.W.keepIn K (.ref f_Pool_change) = true)
    (a_law_deck : PySem.W.nsIn K mainGlobals "_law_deck" = some (some (.ref f_law_deck)))
    (l_law_deck : K.lookup f_law_deck = some ⟨oc_law_deck, od_law_deck, .func (PySem.W.fnOf "_law_deck" "_law_deck" (defArgs s_law_deck) (defBody s_law_deck) (defScope s_law_deck) .none kV_law_deck dc_law_deck pm_law_deck an_law_deck cd_law_deck ct_law_deck), sl_law_deck⟩)
    (c_law_deck : PySem.W.codeIn K cd_law_deck "_law_deck" = true) (k_law_deck : PySem.W.keepIn K (.ref f_law_deck) = true)
    (a_law_draw : PySem.W.nsIn K mainGlobals "_law_draw" = some (some (.ref f_law_draw)))
    (l_law_draw : K.lookup f_law_draw = some ⟨oc_law_draw, od_law_draw, .func (PySem.W.fnOf "_law_draw" "_law_draw" (defArgs s_law_draw) (defBody s_law_draw) (defScope s_law_draw) .none kV_law_draw dc_law_draw pm_law_draw an_law_draw cd_law_draw ct_law_draw), sl_law_draw⟩)
    (c_law_draw : PySem.W.codeIn K cd_law_draw "_law_draw" = true) (k_law_draw : PySem.W.keepIn K (.ref f_law_draw) = true)
    (a_law_pool_size : PySem.W.nsIn K mainGlobals "_law_pool_size" = some (some (.ref f_law_pool_size)))
    (l_law_pool_size : K.lookup f_law_pool_size = some ⟨oc_law_pool_size, od_law_pool_size, .func (PySem.W.fnOf "_law_pool_size" "_law_pool_size" (defArgs s_law_pool_size) (defBody s_law_pool_size) (defScope s_law_pool_size) .none kV_law_pool_size dc_law_pool_size pm_law_pool_size an_law_pool_size cd_law_pool_size ct_law_pool_size), sl_law_pool_size⟩)
    (c_law_pool_size : PySem.W.codeIn K cd_law_pool_size "_law_pool_size" = true) (k_law_pool_size : PySem.W.keepIn K (.ref f_law_pool_size) = true)
    (a_law_told : PySem.W.nsIn K mainGlobals "_law_told" = some (some (.ref f_law_told)))
    (l_law_told : K.lookup f_law_told = some ⟨oc_law_told, od_law_told, .func (PySem.W.fnOf "_law_told" "_law_told" (defArgs s_law_told) (defBody s_law_told) (defScope s_law_told) .none kV_law_told dc_law_told pm_law_told an_law_told cd_law_told ct_law_told), sl_law_told⟩)
    (c_law_told : PySem.W.codeIn K cd_law_told "_law_told" = true) (k_law_told : PySem.W.keepIn K (.ref f_law_told) = true)
    (a_law_cut : PySem.W.nsIn K mainGlobals "_law_cut" = some (some (.ref f_law_cut)))
    (l_law_cut : K.lookup f_law_cut = some ⟨oc_law_cut, od_law_cut, .func (PySem.W.fnOf "_law_cut" "_law_cut" (defArgs s_law_cut) (defBody s_law_cut) (defScope s_law_cut) .none kV_law_cut dc_law_cut pm_law_cut an_law_cut cd_law_cut ct_law_cut), sl_law_cut⟩)
    (c_law_cut : PySem.W.codeIn K cd_law_cut "_law_cut" = true) (k_law_cut : PySem.W.keepIn K (.ref f_law_cut) = true)
    (a_law_deed_right : PySem.W.nsIn K mainGlobals "_law_deed_right" = some (some (.ref f_law_deed_right)))
    (l_law_deed_right : K.lookup f_law_deed_right = some ⟨oc_law_deed_right, od_law_deed_right, .func (PySem.W.fnOf "_law_deed_right" "_law_deed_right" (defArgs s_law_deed_right) (defBody s_law_deed_right) (defScope s_law_deed_right) .none kV_law_deed_right dc_law_deed_right pm_law_deed_right an_law_deed_right cd_law_deed_right ct_law_deed_right), sl_law_deed_right⟩)
    (c_law_deed_right : PySem.W.codeIn K cd_law_deed_right "_law_deed_right" = true) (k_law_deed_right : PySem.W.keepIn K (.ref f_law_deed_right) = true)
    (a_law : PySem.W.nsIn K mainGlobals "law" = some (some (.ref f_law)))
    (l_law : K.lookup f_law = some ⟨oc_law, od_law, .func (PySem.W.fnOf "law" "law" (defArgs s_law) (defBody s_law) (defScope s_law) .none kV_law dc_law pm_law an_law cd_law ct_law), sl_law⟩)
    (c_law : PySem.W.codeIn K cd_law "law" = true) (k_law : PySem.W.keepIn K (.ref f_law) = true)
    (kV_is : kV_Pool___init__ = .ref DB)
    (kB : PySem.W.nsIn K DB "burst" = some (some (.int 0 tb)))
    : ∃ fd : FuncData, (∀ (s : Shared) (v : Value), BindsTo s fd ⟨[v], []⟩ [("_law_script", v)]) ∧ ∀ base : Heap, K.In base → base.Ns mainGlobals mg → FnD l.prog w K mg base CX0 6 fa fd ["_law_script"] spLaw := by
  have e := hfa.symm.trans (PySem.W.mg_of X G a_law)
  cases e
  have B : Nm mg := ⟨PySem.W.mg_none_of X G z_bool, PySem.W.mg_none_of X G z_int, PySem.W.mg_none_of X G z_len, PySem.W.mg_none_of X G z_max, PySem.W.mg_none_of X G z_min, PySem.W.mg_none_of X G z_range, PySem.W.mg_none_of X G z_repr⟩
  have TPool : ClPool K CPool := ⟨⟨pg_Pool, hd_Pool, po_Pool, sa_Pool⟩, n_Pool___bool__, n_Pool_burst, n_Pool_quota, n_Pool_there⟩
  have F_Pool___init__ := funA_mk (st := s_Pool___init__) l_Pool___init__ c_Pool___init__ k_Pool___init__
  have F_Pool___len__ := funA_mk (st := s_Pool___len__) l_Pool___len__ c_Pool___len__ k_Pool___len__
  have b_Pool___len__ := (fun_mk (st := s_Pool___len__) l_Pool___len__ c_Pool___len__ k_Pool___len__).binds (ps := ["self"]) fun _ _ _ _ _ _ us hl => match us, hl with | [_], _ => rfl
  have F_Pool_take := funA_mk (st := s_Pool_take) l_Pool_take c_Pool_take k_Pool_take
  have b_Pool_take := (fun_mk (st := s_Pool_take) l_Pool_take c_Pool_take k_Pool_take).binds (ps := ["self", "many"]) fun _ _ _ _ _ _ us hl => match us, hl with | [_, _], _ => rfl
  have F_Pool_give := funA_mk (st := s_Pool_give) l_Pool_give c_Pool_give k_Pool_give
  have b_Pool_give := (fun_mk (st := s_Pool_give) l_Pool_give c_Pool_give k_Pool_give).binds (ps := ["self", "many"]) fun _ _ _ _ _ _ us hl => match us, hl with | [_, _], _ => rfl
  have F_Pool_cut_to := funA_mk (st := s_Pool_cut_to) l_Pool_cut_to c_Pool_cut_to k_Pool_cut_to
  have b_Pool_cut_to := (fun_mk (st := s_Pool_cut_to) l_Pool_cut_to c_Pool_cut_to k_Pool_cut_to).binds (ps := ["self", "most"]) fun _ _ _ _ _ _ us hl => match us, hl with | [_, _], _ => rfl
  have F_Pool_fill := funA_mk (st := s_Pool_fill) l_Pool_fill c_Pool_fill k_Pool_fill
  have b_Pool_fill := (fun_mk (st := s_Pool_fill) l_Pool_fill c_Pool_fill k_Pool_fill).binds (ps := ["self"]) fun _ _ _ _ _ _ us hl => match us, hl with | [_], _ => rfl
  have F_Pool_change := funA_mk (st := s_Pool_change) l_Pool_change c_Pool_change k_Pool_change
  have b_Pool_change := (fun_mk (st := s_Pool_change) l_Pool_change c_Pool_change k_Pool_change).binds (ps := ["self", "quota", "burst"]) fun _ _ _ _ _ _ us hl => match us, hl with | [_, _, _], _ => rfl
  have F_law_deck := funA_mk (st := s_law_deck) l_law_deck c_law_deck k_law_deck
  have b_law_deck := (fun_mk (st := s_law_deck) l_law_deck c_law_deck k_law_deck).binds (ps := ["_law_script", "_law_k"]) fun _ _ _ _ _ _ us hl => match us, hl with | [_, _], _ => rfl
  have F_law_draw := funA_mk (st := s_law_draw) l_law_draw c_law_draw k_law_draw
  have b_law_draw := (fun_mk (st := s_law_draw) l_law_draw c_law_draw k_law_draw).binds (ps := ["_law_deck_here", "_law_ways"]) fun _ _ _ _ _ _ us hl => match us, hl with | [_, _], _ => rfl
  have F_law_pool_size := funA_mk (st := s_law_pool_size) l_law_pool_size c_law_pool_size k_law_pool_size
  have b_law_pool_size := (fun_mk (st := s_law_pool_size) l_law_pool_size c_law_pool_size k_law_pool_size).binds (ps := ["_law_deck_here"]) fun _ _ _ _ _ _ us hl => match us, hl with | [_], _ => rfl
  have F_law_told := funA_mk (st := s_law_told) l_law_told c_law_told k_law_told
  have b_law_told := (fun_mk (st := s_law_told) l_law_told c_law_told k_law_told).binds (ps := ["_law_pool", "_law_kept"]) fun _ _ _ _ _ _ us hl => match us, hl with | [_, _], _ => rfl
  have F_law_cut := funA_mk (st := s_law_cut) l_law_cut c_law_cut k_law_cut
  have b_law_cut := (fun_mk (st := s_law_cut) l_law_cut c_law_cut k_law_cut).binds (ps := ["_law_kept", "_law_most"]) fun _ _ _ _ _ _ us hl => match us, hl with | [_, _], _ => rfl
  have F_law_deed_right := funA_mk (st := s_law_deed_right) l_law_deed_right c_law_deed_right k_law_deed_right
  have b_law_deed_right := (fun_mk (st := s_law_deed_right) l_law_deed_right c_law_deed_right k_law_deed_right).binds (ps := ["_law_deck_here", "_law_pool", "_law_kept"]) fun _ _ _ _ _ _ us hl => match us, hl with | [_, _, _], _ => rfl
  have F_law := funA_mk (st := s_law) l_law c_law k_law
  have b_law := (fun_mk (st := s_law) l_law c_law k_law).binds (ps := ["_law_script"]) fun _ _ _ _ _ _ us hl => match us, hl with | [_], _ => rfl
  refine ⟨PySem.W.fnOf "law" "law" (defArgs s_law) (defBody s_law) (defScope s_law) .none kV_law dc_law pm_law an_law cd_law ct_law, fun s v => .of_eq rfl, fun base _ _ => ?_⟩
  have G_law_deck : GFn l.prog w K mg base 1 "_law_deck" 2 sp_law_deck := ⟨f_law_deck, _, _, ok_law_deck F_law_deck B, PySem.W.mg_of X G a_law_deck, k_law_deck, rfl, b_law_deck⟩
  have G_law_draw : GFn l.prog w K mg base 1 "_law_draw" 2 sp_law_draw := ⟨f_law_draw, _, _, ok_law_draw F_law_draw B, PySem.W.mg_of X G a_law_draw, k_law_draw, rfl, b_law_draw⟩
  have G_law_pool_size : GFn l.prog w K mg base 2 "_law_pool_size" 1 sp_law_pool_size := ⟨f_law_pool_size, _, _, ok_law_pool_size F_law_pool_size B G_law_draw, PySem.W.mg_of X G a_law_pool_size, k_law_pool_size, rfl, b_law_pool_size⟩
  have G_Pool___len__ : GMt l.prog w K mg base 1 CPool "__len__" 0 (sp_Pool___len__ CPool) := ⟨f_Pool___len__, _, _, ok_Pool___len__ F_Pool___len__ B TPool, ⟨a_Pool___len__, i_Pool___len__, k_Pool___len__⟩, rfl, b_Pool___len__⟩
  have G_law_told : GFn l.prog w K mg base 5 "_law_told" 2 (sp_law_told CPool) := ⟨f_law_told, _, _, ok_law_told F_law_told B TPool G_Pool___len__, PySem.W.mg_of X G a_law_told, k_law_told, rfl, b_law_told⟩
  have G_Pool_take : GMt l.prog w K mg base 1 CPool "take" 1 (sp_Pool_take CPool) := ⟨f_Pool_take, _, _, ok_Pool_take F_Pool_take B TPool, ⟨a_Pool_take, i_Pool_take, k_Pool_take⟩, rfl, b_Pool_take⟩
  have G_Pool_give : GMt l.prog w K mg base 1 CPool "give" 1 (sp_Pool_give CPool) := ⟨f_Pool_give, _, _, ok_Pool_give F_Pool_give B TPool, ⟨a_Pool_give, i_Pool_give, k_Pool_give⟩, rfl, b_Pool_give⟩
  have G_law_cut : GFn l.prog w K mg base 1 "_law_cut" 2 sp_law_cut := ⟨f_law_cut, _, _, ok_law_cut F_law_cut B, PySem.W.mg_of X G a_law_cut, k_law_cut, rfl, b_law_cut⟩
  have G_Pool_cut_to : GMt l.prog w K mg base 1 CPool "cut_to" 1 (sp_Pool_cut_to CPool) := ⟨f_Pool_cut_to, _, _, ok_Pool_cut_to F_Pool_cut_to B TPool, ⟨a_Pool_cut_to, i_Pool_cut_to, k_Pool_cut_to⟩, rfl, b_Pool_cut_to⟩
  have G_Pool_fill : GMt l.prog w K mg base 2 CPool "fill" 0 (sp_Pool_fill CPool) := ⟨f_Pool_fill, _, _, ok_Pool_fill F_Pool_fill B TPool G_Pool_cut_to, ⟨a_Pool_fill, i_Pool_fill, k_Pool_fill⟩, rfl, b_Pool_fill⟩
  have G_Pool_change : GMt l.prog w K mg base 2 CPool "change" 2 (sp_Pool_change CPool) := ⟨f_Pool_change, _, _, ok_Pool_change F_Pool_change B TPool G_Pool_cut_to, ⟨a_Pool_change, i_Pool_change, k_Pool_change⟩, rfl, b_Pool_change⟩
  have G_law_deed_right : GFn l.prog w K mg base 3 "_law_deed_right" 3 (sp_law_deed_right CPool) := ⟨f_law_deed_right, _, _, ok_law_deed_right F_law_deed_right B TPool G_law_draw G_Pool_take G_Pool_give G_law_cut G_Pool_fill G_law_pool_size G_Pool_change, PySem.W.mg_of X G a_law_deed_right, k_law_deed_right, rfl, b_law_deed_right⟩
  have O_Pool___init__ := ok_Pool___init__ (P := l.prog) (w := w) (mg := mg) (base := base) F_Pool___init__ B TPool
  have M_Pool_burst_1 : GMk l.prog w K mg base 1 "Pool" CPool 1 ["burst"] (fun ds es => ds ++ es) (sp_Pool___init__ CPool) :=
    ⟨f_Pool___init__, _, ["self", "quota", "burst"], fun us ws => us ++ ws, fun vs zs => vs ++ zs, O_Pool___init__, ⟨mk_Pool, a_Pool___init__, i_Pool___init__, kc_Pool⟩, PySem.W.mg_of X G aC_Pool,
     ⟨fun s us ws _ l1 l2 => (match us, ws, l1, l2 with | [_, _], [_], _, _ => .of_eq rfl), fun r1 r2 => r1.append r2⟩, ⟨fun r1 r2 => r1.append r2⟩⟩
  subst kV_is
  have M_Pool_1 : GMk l.prog w K mg base 1 "Pool" CPool 1 [] (fun ds _ => ds ++ [.int 0]) (sp_Pool___init__ CPool) :=
    ⟨f_Pool___init__, _, ["self", "quota", "burst"], fun us _ => us ++ [.int 0 tb], fun vs _ => vs ++ [.int 0], O_Pool___init__, ⟨mk_Pool, a_Pool___init__, i_Pool___init__, kc_Pool⟩, PySem.W.mg_of X G aC_Pool,
     ⟨fun s us ws X l1 l2 => (match us, ws, l1, l2 with | [_, _], [], _, _ => BindsTo.of_looks fun M => KwChain.looks X (l := [("burst", .int 0 tb)]) (fun q hq => by rw [List.mem_singleton.mp hq]; exact kB) ⟨_, _, _, _, _, _, rfl, rfl, by unfold KwChain; rfl⟩), fun r1 _ => r1.append (.cons ⟨_, rfl⟩ .nil)⟩, ⟨fun r1 _ => r1.append (.cons (.int 0) .nil)⟩⟩
  exact ok_law F_law B TPool G_law_deck G_law_draw G_law_pool_size G_law_told G_law_deed_right M_Pool_burst_1 M_Pool_1
end LK
open PySem PySem.W PyProof.Rows
set_option maxRecDepth 100000 in
set_option maxHeartbeats 0 in
theorem PySem.Challenge.cw_quotahours_k13_pools_through_deeds_holds : PySem.Challenge.rw_quotahours_k13_pools_through_deeds.Holds := by
  w_on; o_law; k_head; (case hw => w_witness2)
  k_fill
  refine FL.walk_d (l := PySem.Challenge.rw_quotahours_k13_pools_through_deeds) (k := 6) (x := "_law_script") rfl rfl ⟨rfl, by decide, by decide⟩ (fun w h Y => PySem.W.kIn_of Y) ?F
  case F =>
    intro w mg fa h KX G hmg
    refine' LK.all_mk KX G hmg ?z_bool ?z_int ?z_len ?z_max ?z_min ?z_range ?z_repr ?aC_Pool ?pg_Pool ?hd_Pool ?po_Pool ?sa_Pool ?mk_Pool ?kc_Pool ?n_Pool___bool__ ?n_Pool_burst ?n_Pool_quota ?n_Pool_there ?a_Pool___init__ ?i_Pool___init__ ?l_Pool___init__ ?c_Pool___init__ ?k_Pool___init__ ?a_Pool___len__ ?i_Pool___len__ ?l_Pool___len__ ?c_Pool___len__ ?k_Pool___len__ ?a_Pool_take ?i_Pool_take ?l_Pool_take ?c_Pool_take ?k_Pool_take ?a_Pool_give ?i_Pool_give ?l_Pool_give ?c_Pool_give ?k_Pool_give ?a_Pool_cut_to ?i_Pool_cut_to ?l_Pool_cut_to ?c_Pool_cut_to ?k_Pool_cut_to ?a_Pool_fill ?i_Pool_fill ?l_Pool_fill ?c_Pool_fill ?k_Pool_fill ?a_Pool_change ?i_Pool_change ?l_Pool_change ?c_Pool_change ?k_Pool_change ?a_law_deck ?l_law_deck ?c_law_deck ?k_law_deck ?a_law_draw ?l_law_draw ?c_law_draw ?k_law_draw ?a_law_pool_size ?l_law_pool_size ?c_law_pool_size ?k_law_pool_size ?a_law_told ?l_law_told ?c_law_told ?k_law_told ?a_law_cut ?l_law_cut ?c_law_cut ?k_law_cut ?a_law_deed_right ?l_law_deed_right ?c_law_deed_right ?k_law_deed_right ?a_law ?l_law ?c_law ?k_law ?kV_is ?kB
    (case z_bool => k_is); (case z_int => k_is); (case z_len => k_is); (case z_max => k_is); (case z_min => k_is); (case z_range => k_is)
    (case z_repr => k_is); (case aC_Pool => k_is); (case pg_Pool => k_is); (case hd_Pool => k_is); (case po_Pool => k_is); (case sa_Pool => k_is)
    (case mk_Pool => k_is); (case kc_Pool => k_is); (case n_Pool___bool__ => k_is); (case n_Pool_burst => k_is); (case n_Pool_quota => k_is); (case n_Pool_there => k_is)
    (case a_Pool___init__ => k_is); (case i_Pool___init__ => k_is); (case l_Pool___init__ => k_is); (case c_Pool___init__ => k_is); (case k_Pool___init__ => k_is); (case a_Pool___len__ => k_is)
    (case i_Pool___len__ => k_is); (case l_Pool___len__ => k_is); (case c_Pool___len__ => k_is); (case k_Pool___len__ => k_is); (case a_Pool_take => k_is); (case i_Pool_take => k_is)
    (case l_Pool_take => k_is); (case c_Pool_take => k_is); (case k_Pool_take => k_is); (case a_Pool_give => k_is); (case i_Pool_give => k_is); (case l_Pool_give => k_is)
    (case c_Pool_give => k_is); (case k_Pool_give => k_is); (case a_Pool_cut_to => k_is); (case i_Pool_cut_to => k_is); (case l_Pool_cut_to => k_is); (case c_Pool_cut_to => k_is)
    (case k_Pool_cut_to => k_is); (case a_Pool_fill => k_is); (case i_Pool_fill => k_is); (case l_Pool_fill => k_is); (case c_Pool_fill => k_is); (case k_Pool_fill => k_is)
    (case a_Pool_change => k_is); (case i_Pool_change => k_is); (case l_Pool_change => k_is); (case c_Pool_change => k_is); (case k_Pool_change => k_is); (case a_law_deck => k_is)
    (case l_law_deck => k_is); (case c_law_deck => k_is); (case k_law_deck => k_is); (case a_law_draw => k_is); (case l_law_draw => k_is); (case c_law_draw => k_is)
    (case k_law_draw => k_is); (case a_law_pool_size => k_is); (case l_law_pool_size => k_is); (case c_law_pool_size => k_is); (case k_law_pool_size => k_is); (case a_law_told => k_is)
    (case l_law_told => k_is); (case c_law_told => k_is); (case k_law_told => k_is); (case a_law_cut => k_is); (case l_law_cut => k_is); (case c_law_cut => k_is)
    (case k_law_cut => k_is); (case a_law_deed_right => k_is); (case l_law_deed_right => k_is); (case c_law_deed_right => k_is); (case k_law_deed_right => k_is); (case a_law => k_is)
    (case l_law => k_is); (case c_law => k_is); (case k_law => k_is); (case kV_is => rfl); (case kB => k_is)
