import PyProof.Rows.All
import Wide.All
import OpenK.AllK
import Wide.FinOn
import HandS.ForMost
import HandS.Walk
import HandS.Wide
import HandS.TupAny
import HandS.Flow
import HandS.Defaults
import HandS.MakeKw
import HandS.MakeKwOnly
import PyProof.ReprRoads
import HandS.DictSub
import PyProof.Rows.Range3
import PyProof.StrLawsRepr
import HandS.Dict
import HandS.NoneIn
import HandS.DictComp
import HandS.TupSets
import HandS.DictTup
import HandS.SortInts
import HandS.Text
import KE.GoesEnumKw
import KE.GoesZip
import HandS.Zip
import HandS.Strs
import KE.KRevSl
import HandS.More
import HandS.ListItems
import PyProof.P3Eq
import HandS.TryOnly
import HandS.ExcValue
import HandS.IsInst
import KE.KEqDict
import PyProof.Rows.ReprOcc
import PySem.Challenge.RW_quotahours_k01_names
set_option Elab.async false
set_option linter.all false
set_option autoImplicit false
set_option maxRecDepth 100000
set_option maxHeartbeats 4000000
section
/-! The data layer: tuples, lists that nobody changes, and texts are values; what is changed stands in a list of objects, by its number. -/
namespace FL
open PySem L2

inductive D where
  | non : D
  | bl (b : Bool) : D
  | int (i : Int) : D
  | str (x : Str) : D
  | ty (n : String) : D
  | obj (a : Addr) : D
  | ref (i : Nat) : D
  | scr (ds : List D) : D
  | tup (ds : List D) : D
  | lst (ds : List D) : D
  | dct (ks : List Key) (ds : List D) : D
  | ins (C : Addr) (ns : List Str) (ds : List D) : D

inductive O where
  | lst (ds : List D) : O
  | dct (kvs : List (Key × D)) : O
  | fdc (kvs : List (Key × D)) : O
  | ins (C : Addr) (fs : List (Str × D)) : O

abbrev Fg := PySem.W.Frag
abbrev No : Hp := fun _ => none
abbrev DS := List (Option D)
abbrev OS := List O

def ST (K : Fg) (H : Hp) (I : List Addr) (p : Addr) (xs : List V) : Prop := (Rd H p (.tup xs) ∧ p ∉ I) ∨ SqT K No p xs
def SZ (K : Fg) (H : Hp) (I : List Addr) (p : Addr) (xs : List V) : Prop := (∃ o, H p = some (.frz o (.lst xs)) ∧ p ∉ I) ∨ SqL K No p xs

mutual
inductive RD (K : Fg) (H : Hp) (I : List Addr) : D → V → Prop where
  | non : RD K H I .non .non
  | bl (b : Bool) : RD K H I (.bl b) (.bl b)
  | int (i : Int) : RD K H I (.int i) (.int i)
  | str (x : Str) : RD K H I (.str x) (.str x)
  | ty (n : String) : RD K H I (.ty n) (.ty n)
  | obj (a : Addr) : RD K H I (.obj a) (.ref a)
  | ref {i : Nat} {a : Addr} (h : I[i]? = some a) : RD K H I (.ref i) (.ref a)
  | scr {p : Addr} {xs : List V} {ds : List D} (h : SZ K H I p xs) (r : RDs K H I ds xs) : RD K H I (.scr ds) (.ref p)
  | tup {p : Addr} {xs : List V} {ds : List D} (h : ST K H I p xs) (r : RDs K H I ds xs) : RD K H I (.tup ds) (.ref p)
  | lst {p : Addr} {xs : List V} {ds : List D} (h : H p = some (.lst xs)) (n : p ∉ I) (r : RDs K H I ds xs) : RD K H I (.lst ds) (.ref p)
  | dct {p : Addr} {kvs : List (Key × V)} {ks : List Key} {ds : List D} (h : Rd H p (.dK kvs)) (n : p ∉ I) (hk : kvs.map (·.1) = ks) (r : RDs K H I ds (kvs.map (·.2))) : RD K H I (.dct ks ds) (.ref p)
  | ins {p C dx : Addr} {fs : List (Str × V)} {ns : List Str} {ds : List D} (h : H p = some (.ins C dx fs)) (n : p ∉ I) (hk : fs.map (·.1) = ns) (r : RDs K H I ds (fs.map (·.2))) : RD K H I (.ins C ns ds) (.ref p)
inductive RDs (K : Fg) (H : Hp) (I : List Addr) : List D → List V → Prop where
  | nil : RDs K H I [] []
  | cons {d : D} {v : V} {ds : List D} {vs : List V} (a : RD K H I d v) (r : RDs K H I ds vs) : RDs K H I (d :: ds) (v :: vs)
end

def RO (K : Fg) (H : Hp) (I : List Addr) (a : Addr) : O → Prop
  | .lst ds => ∃ xs, H a = some (.lst xs) ∧ RDs K H I ds xs
  | .dct qs => ∃ kvs, H a = some (.dK kvs) ∧ kvs.map (·.1) = qs.map (·.1) ∧ RDs K H I (qs.map (·.2)) (kvs.map (·.2))
  | .fdc qs => ∃ kvs, (∃ o, H a = some (.frz o (.dK kvs))) ∧ kvs.map (·.1) = qs.map (·.1) ∧ RDs K H I (qs.map (·.2)) (kvs.map (·.2))
  | .ins C qs => ∃ dx fs, H a = some (.ins C dx fs) ∧ fs.map (·.1) = qs.map (·.1) ∧ RDs K H I (qs.map (·.2)) (fs.map (·.2))

structure HR (K : Fg) (I : List Addr) (h : OS) (H : Hp) : Prop where
  len : I.length = h.length
  nd : I.Nodup
  ob : ∀ (i : Nat) (a : Addr) (o : O), I[i]? = some a → h[i]? = some o → RO K H I a o

structure Stw (I : List Addr) (H : Hp) (I' : List Addr) (H' : Hp) : Prop where
  pre : ∃ new, I' = I ++ new ∧ ∀ p ∈ new, H p = none
  keep : ∀ b o, H b = some o → b ∉ I → H' b = some o
  live : ∀ b o, H b = some o → ∃ o', H' b = some o'
/-- and what is locked stays -/
structure Stp (I : List Addr) (H : Hp) (I' : List Addr) (H' : Hp) : Prop extends Stw I H I' H' where
  fz : ∀ b o u, H b = some (.frz o u) → H' b = some (.frz o u)
def NoFz : HO → Prop
  | .frz _ _ => False
  | _ => True

section
variable {K : Fg} {H H' H1 H2 : Hp} {I I' I1 I2 : List Addr} {h h' : OS} {p : Addr} {o : HO}

theorem Stp.refl : Stp I H I H := ⟨⟨⟨[], (List.append_nil I).symm, fun p hp => absurd hp List.not_mem_nil⟩, fun _ _ e _ => e, fun _ o e => ⟨o, e⟩⟩, fun _ _ _ e => e⟩
theorem Stw.notin (s : Stw I H I' H') (e : H p = some o) (n : p ∉ I) : p ∉ I' := by
  obtain ⟨new, rfl, hn⟩ := s.pre
  intro q
  rcases List.mem_append.mp q with q | q
  · exact n q
  · have := hn p q
    rw [e] at this
    cases this
theorem Stw.trans (a : Stw I H I1 H1) (b : Stw I1 H1 I2 H2) : Stw I H I2 H2 := by
  refine ⟨?_, fun x o e n => b.keep x o (a.keep x o e n) (a.notin e n), fun x o e => ?_⟩
  · obtain ⟨n1, rfl, f1⟩ := a.pre
    obtain ⟨n2, rfl, f2⟩ := b.pre
    refine ⟨n1 ++ n2, List.append_assoc _ _ _, fun p hp => ?_⟩
    rcases List.mem_append.mp hp with q | q
    · exact f1 p q
    · cases e : H p with
      | none => rfl
      | some o =>
        obtain ⟨o', e'⟩ := a.live p o e
        rw [f2 p q] at e'
        cases e'
  · obtain ⟨o1, e1⟩ := a.live x o e
    exact b.live x o1 e1
theorem Stp.trans (a : Stp I H I1 H1) (b : Stp I1 H1 I2 H2) : Stp I H I2 H2 := ⟨a.toStw.trans b.toStw, fun x o u e => b.fz x o u (a.fz x o u e)⟩
theorem Stp.notin (s : Stp I H I' H') (e : H p = some o) (n : p ∉ I) : p ∉ I' := s.toStw.notin e n
theorem ST.sq {xs : List V} (h : ST K H I p xs) : SqT K H p xs := by
  rcases h with ⟨h, _⟩ | h
  · exact Or.inl h
  · rcases h with (h | ⟨o, h⟩) | h
    · cases h
    · cases h
    · exact Or.inr h
theorem SZ.sq {xs : List V} (h : SZ K H I p xs) : SqL K H p xs := by
  rcases h with ⟨o, h, _⟩ | h
  · exact Or.inl (Or.inr ⟨o, h⟩)
  · rcases h with (h | ⟨o, h⟩) | h
    · cases h
    · cases h
    · exact Or.inr h
theorem ST.stepW {xs : List V} (h : ST K H I p xs) (s : Stw I H I' H') : ST K H' I' p xs := by
  rcases h with ⟨h | ⟨o, h⟩, n⟩ | h
  · exact Or.inl ⟨Or.inl (s.keep _ _ h n), s.notin h n⟩
  · exact Or.inl ⟨Or.inr ⟨o, s.keep _ _ h n⟩, s.notin h n⟩
  · exact Or.inr h
theorem SZ.stepW {xs : List V} (h : SZ K H I p xs) (s : Stw I H I' H') : SZ K H' I' p xs := by
  rcases h with ⟨o, h, n⟩ | h
  · exact Or.inl ⟨o, s.keep _ _ h n, s.notin h n⟩
  · exact Or.inr h
theorem Stw.at (s : Stw I H I' H') {i : Nat} {a : Addr} (e : I[i]? = some a) : I'[i]? = some a := by
  obtain ⟨new, rfl, _⟩ := s.pre
  rw [List.getElem?_append_left (List.getElem?_eq_some_iff.mp e).1]
  exact e
mutual
theorem RD.stepW (s : Stw I H I' H') : ∀ {d : D} {v : V}, RD K H I d v → RD K H' I' d v
  | _, _, .non => .non
  | _, _, .bl b => .bl b
  | _, _, .int i => .int i
  | _, _, .str x => .str x
  | _, _, .ty n => .ty n
  | _, _, .obj a => .obj a
  | _, _, .ref e => .ref (s.at e)
  | _, _, .scr e r => .scr (e.stepW s) (RDs.stepW s r)
  | _, _, .tup e r => .tup (e.stepW s) (RDs.stepW s r)
  | _, _, .lst e n r => .lst (s.keep _ _ e n) (s.notin e n) (RDs.stepW s r)
  | _, _, .dct (Or.inl e) n hk r => .dct (Or.inl (s.keep _ _ e n)) (s.notin e n) hk (RDs.stepW s r)
  | _, _, .dct (Or.inr ⟨o, e⟩) n hk r => .dct (Or.inr ⟨o, s.keep _ _ e n⟩) (s.notin e n) hk (RDs.stepW s r)
  | _, _, .ins e n hk r => .ins (s.keep _ _ e n) (s.notin e n) hk (RDs.stepW s r)
theorem RDs.stepW (s : Stw I H I' H') : ∀ {ds : List D} {vs : List V}, RDs K H I ds vs → RDs K H' I' ds vs
  | _, _, .nil => .nil
  | _, _, .cons a r => .cons (RD.stepW s a) (RDs.stepW s r)
end
theorem ST.step {xs : List V} (h : ST K H I p xs) (s : Stp I H I' H') : ST K H' I' p xs := h.stepW s.toStw
theorem SZ.step {xs : List V} (h : SZ K H I p xs) (s : Stp I H I' H') : SZ K H' I' p xs := h.stepW s.toStw
theorem Stp.at (s : Stp I H I' H') {i : Nat} {a : Addr} (e : I[i]? = some a) : I'[i]? = some a := s.toStw.at e
theorem RD.step (s : Stp I H I' H') {d : D} {v : V} (r : RD K H I d v) : RD K H' I' d v := RD.stepW s.toStw r
theorem RDs.step (s : Stp I H I' H') {ds : List D} {vs : List V} (r : RDs K H I ds vs) : RDs K H' I' ds vs := RDs.stepW s.toStw r
theorem RDs.length : ∀ {ds : List D} {vs : List V}, RDs K H I ds vs → ds.length = vs.length
  | _, _, .nil => rfl
  | _, _, .cons _ r => by rw [List.length_cons, List.length_cons, r.length]
theorem RDs.get : ∀ {ds : List D} {vs : List V} {i : Nat} {d : D}, RDs K H I ds vs → ds[i]? = some d → ∃ v, vs[i]? = some v ∧ RD K H I d v
  | _, _, _, _, .nil, e => by cases e
  | _, _, 0, _, .cons a _, e => by
    cases e
    exact ⟨_, rfl, a⟩
  | _, _, i + 1, _, .cons _ r, e => RDs.get (i := i) r e
theorem RDs.getV : ∀ {ds : List D} {vs : List V} {i : Nat} {v : V}, RDs K H I ds vs → vs[i]? = some v → ∃ d, ds[i]? = some d ∧ RD K H I d v
  | _, _, _, _, .nil, e => by cases e
  | _, _, 0, _, .cons a _, e => by
    cases e
    exact ⟨_, rfl, a⟩
  | _, _, i + 1, _, .cons _ r, e => RDs.getV (i := i) r e
theorem RDs.append : ∀ {ds es : List D} {vs ws : List V}, RDs K H I ds vs → RDs K H I es ws → RDs K H I (ds ++ es) (vs ++ ws)
  | _, _, _, _, .nil, r => r
  | _, _, _, _, .cons a r, q => .cons a (r.append q)
theorem RDs.set {d : D} {v : V} (a : RD K H I d v) : ∀ {ds : List D} {vs : List V} (i : Nat), RDs K H I ds vs → RDs K H I (ds.set i d) (vs.set i v)
  | _, _, _, .nil => .nil
  | _, _, 0, .cons _ r => .cons a r
  | _, _, i + 1, .cons b r => .cons b (r.set a i)
theorem RDs.take : ∀ {ds : List D} {vs : List V} (n : Nat), RDs K H I ds vs → RDs K H I (ds.take n) (vs.take n)
  | _, _, 0, _ => .nil
  | _, _, _ + 1, .nil => .nil
  | _, _, n + 1, .cons a r => .cons a (r.take n)
theorem RDs.drop : ∀ {ds : List D} {vs : List V} (n : Nat), RDs K H I ds vs → RDs K H I (ds.drop n) (vs.drop n)
  | _, _, 0, r => r
  | _, _, _ + 1, .nil => .nil
  | _, _, n + 1, .cons _ r => r.drop n
theorem HR.tracked (r : HR K I h H) {a : Addr} (m : a ∈ I) : ∃ u, H a = some u := by
  obtain ⟨i, hi, e⟩ := List.getElem_of_mem m
  have hi' : i < h.length := by rw [← r.len]; exact hi
  have hI : I[i]? = some a := by rw [List.getElem?_eq_getElem hi, e]
  have := r.ob i a h[i] hI (List.getElem?_eq_getElem hi')
  cases hh : h[i] with
  | lst ds =>
    rw [hh] at this
    obtain ⟨xs, q, _⟩ := this
    exact ⟨_, q⟩
  | dct qs =>
    rw [hh] at this
    obtain ⟨xs, q, _⟩ := this
    exact ⟨_, q⟩
  | fdc qs =>
    rw [hh] at this
    obtain ⟨xs, ⟨o, q⟩, _⟩ := this
    exact ⟨_, q⟩
  | ins C qs =>
    rw [hh] at this
    obtain ⟨dx, xs, q, _⟩ := this
    exact ⟨_, q⟩
theorem HR.fresh (r : HR K I h H) (e : H p = none) : p ∉ I := by
  intro m
  obtain ⟨u, q⟩ := r.tracked m
  rw [e] at q
  cases q
/-- an object's description at another heap in which its own place and all values stand -/
theorem RO.moved {a : Addr} {x : O} (r : RO K H I a x) (e : H' a = H a) (s : ∀ {ds : List D} {vs : List V}, RDs K H I ds vs → RDs K H' I' ds vs) : RO K H' I' a x := by
  cases x with
  | lst ds =>
    obtain ⟨xs, q, r⟩ := r
    exact ⟨xs, e.trans q, s r⟩
  | dct qs =>
    obtain ⟨xs, q, hk, r⟩ := r
    exact ⟨xs, e.trans q, hk, s r⟩
  | fdc qs =>
    obtain ⟨xs, ⟨o, q⟩, hk, r⟩ := r
    exact ⟨xs, ⟨o, e.trans q⟩, hk, s r⟩
  | ins C qs =>
    obtain ⟨dx, xs, q, hk, r⟩ := r
    exact ⟨dx, xs, e.trans q, hk, s r⟩
/-- a new thing that is no object of ours -/
theorem Stp.new (e : H p = none) : Stp I H I (upd H p o) := by
  have ne : ∀ b u, H b = some u → b ≠ p := fun b u q => ne_of_none q e
  refine ⟨?_, fun b o' u q => by rw [upd_ne (ne b _ q)]; exact q⟩
  exact ⟨⟨[], (List.append_nil I).symm, fun p hp => absurd hp List.not_mem_nil⟩, fun b u q _ => by rw [upd_ne (ne b u q)]; exact q, fun b u q => ⟨u, by rw [upd_ne (ne b u q)]; exact q⟩⟩
theorem HR.new (r : HR K I h H) (e : H p = none) : HR K I h (upd H p o) := by
  refine ⟨r.len, r.nd, fun i a x hi hx => (r.ob i a x hi hx).moved (upd_ne ?_) fun q => q.step (Stp.new e)⟩
  intro z
  subst z
  exact r.fresh e (List.mem_of_getElem? hi)
/-- a new object of ours -/
theorem Stp.push (e : H p = none) : Stp I H (I ++ [p]) (upd H p o) := by
  have s : Stp I H I (upd H p o) := Stp.new e
  exact ⟨⟨⟨[p], rfl, fun q hq => by rw [List.mem_singleton.mp hq]; exact e⟩, s.keep, s.live⟩, s.fz⟩
theorem HR.push {x : O} (r : HR K I h H) (e : H p = none) (new : RO K (upd H p o) (I ++ [p]) p x) : HR K (I ++ [p]) (h ++ [x]) (upd H p o) := by
  have np : p ∉ I := r.fresh e
  refine ⟨by rw [List.length_append, List.length_append, r.len]; rfl, List.nodup_append.mpr ⟨r.nd, List.nodup_cons.mpr ⟨List.not_mem_nil, List.nodup_nil⟩, fun a ha b hb z => ?_⟩, fun i a y hi hx => ?_⟩
  · subst z
    rw [List.mem_singleton.mp hb] at ha
    exact np ha
  · by_cases hl : i < I.length
    · rw [List.getElem?_append_left hl] at hi
      rw [List.getElem?_append_left (by rw [← r.len]; exact hl)] at hx
      refine (r.ob i a y hi hx).moved (upd_ne ?_) fun q => q.step (Stp.push e)
      intro z
      subst z
      exact np (List.mem_of_getElem? hi)
    · have hl' : I.length ≤ i := Nat.le_of_not_lt hl
      rw [List.getElem?_append_right hl'] at hi
      rw [List.getElem?_append_right (by rw [← r.len]; exact hl'), ← r.len] at hx
      cases hj : i - I.length with
      | zero =>
        rw [hj] at hi hx
        cases hi
        cases hx
        exact new
      | succ j =>
        rw [hj] at hi
        cases hi
/-- an object of ours changes -/
theorem Stw.put (m : p ∈ I) (l : ∃ u, H p = some u) : Stw I H I (upd H p o) := by
  refine ⟨⟨[], (List.append_nil I).symm, fun p hp => absurd hp List.not_mem_nil⟩, fun b u q n => ?_, fun b u q => ?_⟩
  · rw [upd_ne (fun z => n (by rw [z]; exact m))]
    exact q
  · by_cases z : b = p
    · subst z
      exact ⟨o, upd_same⟩
    · exact ⟨u, by rw [upd_ne z]; exact q⟩
theorem Stp.put (m : p ∈ I) (l : ∃ u, H p = some u ∧ NoFz u) : Stp I H I (upd H p o) := by
  obtain ⟨u, e, n⟩ := l
  refine ⟨Stw.put m ⟨u, e⟩, fun b o' u' q => ?_⟩
  rw [upd_ne (fun z => by rw [z, e] at q; cases q; exact n)]
  exact q
theorem HR.put {x : O} {i : Nat} (r : HR K I h H) (e : I[i]? = some p) (new : RO K (upd H p o) I p x) : HR K I (h.set i x) (upd H p o) := by
  have m : p ∈ I := List.mem_of_getElem? e
  refine ⟨by rw [List.length_set]; exact r.len, r.nd, fun j a y hi hx => ?_⟩
  by_cases z : j = i
  · subst z
    rw [e] at hi
    cases hi
    have hl : j < h.length := by rw [← r.len]; exact (List.getElem?_eq_some_iff.mp e).1
    rw [List.getElem?_set_self hl] at hx
    cases hx
    exact new
  · rw [List.getElem?_set_ne (Ne.symm z)] at hx
    refine (r.ob j a y hi hx).moved (upd_ne ?_) fun q => RDs.stepW (Stw.put m (r.tracked m)) q
    intro w
    subst w
    exact z ((List.getElem?_inj (List.getElem?_eq_some_iff.mp hi).1 r.nd).mp (hi.trans e.symm))
end

/-! ### slots -/
def SR (K : Fg) (H : Hp) (I : List Addr) (δ : DS) (σ : St) : Prop := δ.length = σ.length ∧ ∀ (i : Nat) (d : D), δ[i]? = some (some d) → ∃ v, σ[i]? = some (some v) ∧ RD K H I d v
theorem SR.step {K : Fg} {H H' : Hp} {I I' : List Addr} {δ : DS} {σ : St} (r : SR K H I δ σ) (s : Stp I H I' H') : SR K H' I' δ σ :=
  ⟨r.1, fun i d e => let ⟨v, q, a⟩ := r.2 i d e; ⟨v, q, a.step s⟩⟩
theorem SR.set {K : Fg} {H : Hp} {I : List Addr} {δ : DS} {σ : St} {d : D} {v : V} (r : SR K H I δ σ) (i : Nat) (a : RD K H I d v) : SR K H I (δ.set i (some d)) (σ.set i (some v)) := by
  refine ⟨by rw [List.length_set, List.length_set]; exact r.1, fun j e q => ?_⟩
  by_cases z : i = j
  · subst z
    have hl : i < δ.length := by
      have := (List.getElem?_eq_some_iff.mp q).1
      rw [List.length_set] at this
      exact this
    rw [List.getElem?_set_self hl] at q
    cases q
    exact ⟨v, List.getElem?_set_self (by rw [← r.1]; exact hl), a⟩
  · rw [List.getElem?_set_ne z] at q
    rw [List.getElem?_set_ne z]
    exact r.2 j e q

/-! ### readings over data -/
abbrev DK := D → OS → Prop
abbrev TDE := DS → OS → DK → Prop
abbrev TDT := DS → OS → (Bool → OS → Prop) → Prop
abbrev TDA := DS → OS → (List D → OS → Prop) → Prop
def Go (K : Fg) (I : List Addr) (H : Hp) (R : DK) (Q : VK) : Prop := ∀ d h' I' H' v, R d h' → Stp I H I' H' → HR K I' h' H' → RD K H' I' d v → Q v H'
def GoB (K : Fg) (I : List Addr) (H : Hp) (R : Bool → OS → Prop) (Q : Bool → Hp → Prop) : Prop := ∀ b h' I' H', R b h' → Stp I H I' H' → HR K I' h' H' → Q b H'
def GoA (K : Fg) (I : List Addr) (H : Hp) (R : List D → OS → Prop) (Q : List V → Hp → Prop) : Prop := ∀ ds h' I' H' vs, R ds h' → Stp I H I' H' → HR K I' h' H' → RDs K H' I' ds vs → Q vs H'
def up (K : Fg) (t : TDE) : TE := fun σ H Q => ∃ I δ h R, SR K H I δ σ ∧ HR K I h H ∧ t δ h R ∧ Go K I H R Q
def upT (K : Fg) (t : TDT) : TT := fun σ H Q => ∃ I δ h R, SR K H I δ σ ∧ HR K I h H ∧ t δ h R ∧ GoB K I H R Q
def upA (K : Fg) (t : TDA) : TA := fun σ H Q => ∃ I δ h R, SR K H I δ σ ∧ HR K I h H ∧ t δ h R ∧ GoA K I H R Q
theorem Go.after {K : Fg} {I I1 : List Addr} {H H1 : Hp} {R : DK} {Q : VK} (g : Go K I H R Q) (s : Stp I H I1 H1) : Go K I1 H1 R Q := fun d h' I' H' v r s2 => g d h' I' H' v r (s.trans s2)
theorem GoB.after {K : Fg} {I I1 : List Addr} {H H1 : Hp} {R : Bool → OS → Prop} {Q : Bool → Hp → Prop} (g : GoB K I H R Q) (s : Stp I H I1 H1) : GoB K I1 H1 R Q := fun d h' I' H' r s2 => g d h' I' H' r (s.trans s2)
theorem GoA.after {K : Fg} {I I1 : List Addr} {H H1 : Hp} {R : List D → OS → Prop} {Q : List V → Hp → Prop} (g : GoA K I H R Q) (s : Stp I H I1 H1) : GoA K I1 H1 R Q := fun d h' I' H' v r s2 => g d h' I' H' v r (s.trans s2)
/-- the very value, nothing changed -/
theorem Go.now {K : Fg} {I : List Addr} {H : Hp} {R : DK} {Q : VK} {h : OS} {d : D} {v : V} (g : Go K I H R Q) (r : R d h) (hr : HR K I h H) (a : RD K H I d v) : Q v H := g d h I H v r Stp.refl hr a

abbrev DE (X : Cx) (e : Expr) (t : TDE) : Prop := PE X e (up X.K t)
abbrev DT (X : Cx) (e : Expr) (t : TDT) : Prop := PT X e (upT X.K t)
abbrev DWt (X : Cx) (e : Expr) (t : TDT) : Prop := PW X e (upT X.K t)
abbrev DA (X : Cx) (es : List Expr) (t : TDA) : Prop := PA X es (upA X.K t)

theorem PE.imp {X : Cx} {e : Expr} {t t' : TE} (h : PE X e t) (i : ∀ σ H Q, t' σ H Q → t σ H Q) : PE X e t' := ⟨fun pins s σ H Q I q => h.run pins s σ H Q I (i σ H Q q)⟩
theorem PT.imp {X : Cx} {e : Expr} {t t' : TT} (h : PT X e t) (i : ∀ σ H Q, t' σ H Q → t σ H Q) : PT X e t' := ⟨fun pins s σ H Q I q => h.run pins s σ H Q I (i σ H Q q)⟩
theorem PW.imp {X : Cx} {e : Expr} {t t' : TT} (h : PW X e t) (i : ∀ σ H Q, t' σ H Q → t σ H Q) : PW X e t' := ⟨fun wh pins s σ H Q I q => h.run wh pins s σ H Q I (i σ H Q q)⟩
theorem PA.imp {X : Cx} {es : List Expr} {t t' : TA} (h : PA X es t) (i : ∀ σ H Q, t' σ H Q → t σ H Q) : PA X es t' := ⟨fun pos pins s σ H Q I q => h.run pos pins s σ H Q I (i σ H Q q)⟩
theorem PS.imp {X : Cx} {e : Stmt} {t t' : TS} (h : PS X e t) (i : ∀ E σ H, t' E σ H → t E σ H) : PS X e t' := ⟨fun pins s σ H E I q => h.run pins s σ H E I (i E σ H q)⟩
theorem PSs.imp {X : Cx} {e : List Stmt} {t t' : TS} (h : PSs X e t) (i : ∀ E σ H, t' E σ H → t E σ H) : PSs X e t' := ⟨fun pins s σ H E I q => h.run pins s σ H E I (i E σ H q)⟩

/-! ### names, constants -/
def dVar (i : Nat) : TDE := fun δ h R => ∃ d, δ[i]? = some (some d) ∧ R d h
def dC (d : D) : TDE := fun _ h R => R d h
section
variable {X : Cx} {pos : Pos}
theorem dv (i : Nat) {x : Str} (hN : X.N[i]? = some x := by rfl) (hv : Vis X.env.scope x := by first | exact Or.inl rfl | exact Or.inr (Or.inl rfl) | exact Or.inr (Or.inr rfl)) (hd : (x == ("__debug__" : Str)) = false := by decide)
    (hcd : (x == ("__classdict__" : Str)) = false := by decide) : DE X (.Name x pos) (dVar i) :=
  PE.imp (pv i hN hv hd hcd) fun σ H Q ⟨I, δ, h, R, sr, hr, ⟨d, e, r⟩, g⟩ => let ⟨v, q, a⟩ := sr.2 i d e; ⟨v, q, g.now r hr a⟩
theorem dc_of {e : Expr} {v : V} {d : D} (p : PE X e (tC v)) (a : ∀ H I, RD X.K H I d v) : DE X e (dC d) :=
  PE.imp p fun σ H Q ⟨I, δ, h, R, sr, hr, r, g⟩ => g.now r hr (a H I)
theorem d_int {i : Int} {j : Nat} : DE X (.Constant (.int i) j pos) (dC (.int i)) := dc_of pe_int fun _ _ => .int i
theorem d_bl {b : Bool} {j : Nat} : DE X (.Constant (.bool b) j pos) (dC (.bl b)) := dc_of pe_bl fun _ _ => .bl b
theorem d_non {j : Nat} : DE X (.Constant .none j pos) (dC .non) := dc_of pe_non fun _ _ => .non
theorem d_str {x : Str} {j : Nat} : DE X (.Constant (.str x) j pos) (dC (.str x)) := dc_of pe_str fun _ _ => .str x
end

/-! ### two values, one value, several -/
abbrev F2 := D → D → OS → DK → Prop
abbrev F1 := D → OS → DK → Prop
abbrev FA := List D → OS → DK → Prop
def dOp (f : F2) (ta tb : TDE) : TDE := fun δ h R => ta δ h fun x h1 => tb δ h1 fun y h2 => f x y h2 R
def dUn (f : F1) (ta : TDE) : TDE := fun δ h R => ta δ h fun x h1 => f x h1 R
def up2 (K : Fg) (f : F2) : R2 := fun x y H Q => ∃ I dx dy h R, HR K I h H ∧ RD K H I dx x ∧ RD K H I dy y ∧ f dx dy h R ∧ Go K I H R Q
def up1 (K : Fg) (f : F1) : V → Hp → VK → Prop := fun x H Q => ∃ I dx h R, HR K I h H ∧ RD K H I dx x ∧ f dx h R ∧ Go K I H R Q
def upL (K : Fg) (f : FA) : List V → Hp → VK → Prop := fun xs H Q => ∃ I ds h R, HR K I h H ∧ RDs K H I ds xs ∧ f ds h R ∧ Go K I H R Q
section
variable {K : Fg} {f : F2} {g : F1} {ta tb : TDE} {σ : St} {H : Hp} {Q : VK}
theorem up_op (q : up K (dOp f ta tb) σ H Q) : tOp (up2 K f) (up K ta) (up K tb) σ H Q := by
  obtain ⟨I, δ, h, R, sr, hr, ht, g⟩ := q
  refine ⟨I, δ, h, fun x h1 => tb δ h1 fun y h2 => f x y h2 R, sr, hr, ht, fun dx h1 I1 H1 x hR s1 hr1 rx => ?_⟩
  refine ⟨I1, δ, h1, fun y h2 => f dx y h2 R, sr.step s1, hr1, hR, fun dy h2 I2 H2 y hf s2 hr2 ry => ?_⟩
  exact ⟨I2, dx, dy, h2, R, hr2, rx.step s2, ry, hf, g.after (s1.trans s2)⟩
theorem up_un (q : up K (dUn g ta) σ H Q) : tUn (up1 K g) (up K ta) σ H Q := by
  obtain ⟨I, δ, h, R, sr, hr, ht, go⟩ := q
  refine ⟨I, δ, h, fun x h1 => g x h1 R, sr, hr, ht, fun dx h1 I1 H1 x hR s1 hr1 rx => ?_⟩
  exact ⟨I1, dx, h1, R, hr1, rx, hR, go.after s1⟩
end
abbrev DOp (X : Cx) (f : Value → Value → Sem Value) (r : F2) : Prop := OpR X f (up2 X.K r)
section
variable {X : Cx} {a b c : Expr} {ta tb tc : TDE} {pos : Pos} {f f' : F2}
theorem d_bin {op : Operator} (ho : DOp X (binaryOp op) f) (ha : DE X a ta) (hb : DE X b tb) : DE X (.BinOp a op b pos) (dOp f ta tb) := PE.imp (pe_op ho ha hb) fun _ _ _ => up_op
theorem d_cmp {op : CmpOp} (ho : DOp X (compareOp op) f) (ha : DE X a ta) (hb : DE X b tb) (hm : behindInMarks op b = false := by first | exact nomark _ | with_unfolding_all rfl) : DE X (.Compare a [op] [b] pos) (dOp f ta tb) :=
  PE.imp (pe_cmpR ho ha hb hm) fun _ _ _ => up_op
theorem d_un {op : UnaryOp} {g : F1} (ho : UnR X (unaryOp op) (up1 X.K g)) (ha : DE X a ta) : DE X (.UnaryOp op a pos) (dUn g ta) := PE.imp (pe_un ho ha) fun _ _ _ => up_un
end

/-! ### argument lists -/
def dNil : TDA := fun _ h R => R [] h
def dCons (ta : TDE) (tr : TDA) : TDA := fun δ h R => ta δ h fun x h1 => tr δ h1 fun xs h2 => R (x :: xs) h2
section
variable {X : Cx} {e : Expr} {es : List Expr} {te : TDE} {t : TDA} {pos : Pos}
theorem da_nil : DA X [] dNil := PA.imp pa_nil fun σ H Q ⟨I, δ, h, R, sr, hr, r, g⟩ => g [] h I H [] r Stp.refl hr .nil
theorem da_cons (ha : DE X e te) (hr : DA X es t) (hs : starEach (e :: es) X.env = (false, eval e X.env) :: starEach es X.env := by rfl) : DA X (e :: es) (dCons te t) := by
  refine PA.imp (pa_cons ha hr hs) fun σ H Q ⟨I, δ, h, R, sr, hr, r, g⟩ => ?_
  refine ⟨I, δ, h, _, sr, hr, r, fun dx h1 I1 H1 x hR s1 hr1 rx => ?_⟩
  refine ⟨I1, δ, h1, _, sr.step s1, hr1, hR, fun ds h2 I2 H2 xs hf s2 hr2 rs => ?_⟩
  exact g _ h2 I2 H2 _ hf (s1.trans s2) hr2 (.cons (rx.step s2) rs)
/-- a tuple -/
def dTup (t : TDA) : TDE := fun δ h R => t δ h fun ds h1 => ds.length ≤ sizeLine ∧ R (.tup ds) h1
/-- a list that nobody will change; a list of ours -/
def dLst (t : TDA) : TDE := fun δ h R => t δ h fun ds h1 => ds.length ≤ sizeLine ∧ R (.lst ds) h1
def dLstN (t : TDA) : TDE := fun δ h R => t δ h fun ds h1 => ds.length ≤ sizeLine ∧ R (.ref h1.length) (h1 ++ [.lst ds])
theorem Go.tup {K : Fg} {I : List Addr} {H : Hp} {R : DK} {Q : VK} {h : OS} {ds : List D} {xs : List V} (g : Go K I H R Q) (r : R (.tup ds) h) (hr : HR K I h H) (a : RDs K H I ds xs) : ∀ p, H p = none → Q (.ref p) (upd H p (.tup xs)) :=
  fun p e => g _ h I _ _ r (Stp.new e) (hr.new e) (.tup (Or.inl ⟨Or.inl upd_same, hr.fresh e⟩) (a.step (Stp.new e)))
theorem Go.lst {K : Fg} {I : List Addr} {H : Hp} {R : DK} {Q : VK} {h : OS} {ds : List D} {xs : List V} (g : Go K I H R Q) (r : R (.lst ds) h) (hr : HR K I h H) (a : RDs K H I ds xs) : ∀ p, H p = none → Q (.ref p) (upd H p (.lst xs)) :=
  fun p e => g _ h I _ _ r (Stp.new e) (hr.new e) (.lst upd_same (hr.fresh e) (a.step (Stp.new e)))
theorem Go.lstN {K : Fg} {I : List Addr} {H : Hp} {R : DK} {Q : VK} {h : OS} {ds : List D} {xs : List V} (g : Go K I H R Q) (r : R (.ref h.length) (h ++ [.lst ds])) (hr : HR K I h H) (a : RDs K H I ds xs) : ∀ p, H p = none → Q (.ref p) (upd H p (.lst xs)) :=
  fun p e => g _ _ (I ++ [p]) _ _ r (Stp.push e) (hr.push e ⟨xs, upd_same, a.step (Stp.push e)⟩) (.ref (by rw [← hr.len, List.getElem?_append_right (Nat.le_refl _), Nat.sub_self]; rfl))
theorem d_tup {x1 : Nat} (hp : DA X es t) : DE X (.Tuple es x1 pos) (dTup t) := by
  refine PE.imp (pe_tup hp) fun σ H Q ⟨I, δ, h, R, sr, hr, r, g⟩ => ?_
  refine ⟨I, δ, h, _, sr, hr, r, fun ds h1 I1 H1 xs ⟨hl, hR⟩ s1 hr1 rs => ⟨by rw [← rs.length]; exact hl, (g.after s1).tup hR hr1 rs⟩⟩
theorem d_lst (hp : DA X es t) : DE X (.List es pos) (dLst t) := by
  refine PE.imp (pe_lst hp) fun σ H Q ⟨I, δ, h, R, sr, hr, r, g⟩ => ?_
  refine ⟨I, δ, h, _, sr, hr, r, fun ds h1 I1 H1 xs ⟨hl, hR⟩ s1 hr1 rs => ⟨by rw [← rs.length]; exact hl, (g.after s1).lst hR hr1 rs⟩⟩
theorem d_lstN (hp : DA X es t) : DE X (.List es pos) (dLstN t) := by
  refine PE.imp (pe_lst hp) fun σ H Q ⟨I, δ, h, R, sr, hr, r, g⟩ => ?_
  refine ⟨I, δ, h, _, sr, hr, r, fun ds h1 I1 H1 xs ⟨hl, hR⟩ s1 hr1 rs => ⟨by rw [← rs.length]; exact hl, (g.after s1).lstN hR hr1 rs⟩⟩
end
end FL
end
section
/-! Operations over data. -/
namespace FL
open PySem L2
section views
/-- what may be read as a list (that is not the script) -/
def lsv (h : OS) : D → Option (List D)
  | .lst ds => some ds
  | .ref n => match h[n]? with
    | some (.lst ds) => some ds
    | _ => none
  | _ => none
/-- a list (true) or a tuple (false) -/
def sqv (h : OS) : D → Option (Bool × List D)
  | .lst ds => some (true, ds)
  | .scr ds => some (true, ds)
  | .tup ds => some (false, ds)
  | .ref n => match h[n]? with
    | some (.lst ds) => some (true, ds)
    | _ => none
  | _ => none
variable {K : Fg} {H : Hp} {I : List Addr} {h : OS} {d : D} {v : V} {ds : List D}
theorem HR.get {i : Nat} {o : O} {a : Addr} (r : HR K I h H) (e : h[i]? = some o) (q : RD K H I (.ref i) (.ref a)) : RO K H I a o := by
  cases q with
  | ref q => exact r.ob i a o q e
theorem RD.refv {i : Nat} (r : RD K H I (.ref i) v) : ∃ a, v = .ref a ∧ I[i]? = some a := by
  cases r with
  | ref q => exact ⟨_, rfl, q⟩
theorem lsv_ok (hr : HR K I h H) (r : RD K H I d v) (e : lsv h d = some ds) : ∃ p xs, v = .ref p ∧ H p = some (.lst xs) ∧ RDs K H I ds xs := by
  cases d with
  | lst es =>
    cases e
    cases r with
    | lst q n r => exact ⟨_, _, rfl, q, r⟩
  | ref n =>
    obtain ⟨a, rfl, q⟩ := r.refv
    unfold lsv at e
    simp only at e
    split at e
    · rename_i es z
      cases e
      obtain ⟨xs, q2, r2⟩ := hr.ob n a _ q z
      exact ⟨a, xs, rfl, q2, r2⟩
    · cases e
  | _ => cases e
theorem sqv_ok {k : Bool} (hr : HR K I h H) (r : RD K H I d v) (e : sqv h d = some (k, ds)) : ∃ p xs, v = .ref p ∧ ((k = true ∧ SqL K H p xs) ∨ (k = false ∧ SqT K H p xs)) ∧ RDs K H I ds xs := by
  cases d with
  | lst es =>
    cases e
    cases r with
    | lst q n r => exact ⟨_, _, rfl, Or.inl ⟨rfl, SqL.of q⟩, r⟩
  | scr es =>
    cases e
    cases r with
    | scr q r => exact ⟨_, _, rfl, Or.inl ⟨rfl, q.sq⟩, r⟩
  | tup es =>
    cases e
    cases r with
    | tup q r => exact ⟨_, _, rfl, Or.inr ⟨rfl, q.sq⟩, r⟩
  | ref n =>
    obtain ⟨a, rfl, q⟩ := r.refv
    unfold sqv at e
    simp only at e
    split at e
    · rename_i es z
      cases e
      obtain ⟨xs, q2, r2⟩ := hr.ob n a _ q z
      exact ⟨a, xs, rfl, Or.inl ⟨rfl, SqL.of q2⟩, r2⟩
    · cases e
  | _ => cases e
end views

/-! ### + - * // % ** -/
def MulOk (i j : Int) : Prop := CMul i j ∨ CMulW i j
def fAdd : F2 := fun x y h R => match x, y with
  | .int i, .int j => R (.int (i + j)) h
  | .str a, .str b => a.length + b.length ≤ sizeLine ∧ R (.str (a ++ b)) h
  | .tup xs, .tup ys => xs.length + ys.length ≤ sizeLine ∧ R (.tup (xs ++ ys)) h
  | x, y => ∃ xs ys, lsv h x = some xs ∧ lsv h y = some ys ∧ xs.length + ys.length ≤ sizeLine ∧ R (.lst (xs ++ ys)) h
def fSub : F2 := fun x y h R => match x, y with
  | .int i, .int j => R (.int (i - j)) h
  | _, _ => False
def fMul : F2 := fun x y h R => match x, y with
  | .int i, .int j => MulOk i j ∧ R (.int (i * j)) h
  | _, _ => False
def fDiv : F2 := fun x y h R => match x, y with
  | .int i, .int j => CDivW i j ∧ R (.int (i / j)) h
  | _, _ => False
def fMod : F2 := fun x y h R => match x, y with
  | .int i, .int j => 0 < j ∧ R (.int (i % j)) h
  | _, _ => False
def fPow : F2 := fun x y h R => match x, y with
  | .int i, .int j => CPow i j ∧ R (.int (i ^ j.toNat)) h
  | _, _ => False
def fNeg : F1 := fun x h R => match x with
  | .int i => R (.int (-i)) h
  | _ => False
section
variable {X : Cx}
/-- an operation of ints: from its rule over values -/
theorem op_ints {f : Value → Value → Sem Value} {g : F2} {C : Int → Int → Prop} {z : Int → Int → V} (d : Int → Int → D) (hz : ∀ H I i j, RD X.K H I (d i j) (z i j)) (o : OpR X f (rI C z))
    (hg : ∀ x y h R, g x y h R → ∃ i j, x = .int i ∧ y = .int j ∧ C i j ∧ R (d i j) h) : DOp X f g := by
  intro pins s σ H x y v u Q J rx ry ⟨I, dx, dy, h, R, hr, rdx, rdy, hf, go⟩
  obtain ⟨i, j, rfl, rfl, hc, hR⟩ := hg dx dy h R hf
  cases rdx
  cases rdy
  exact o pins s σ H _ _ v u Q J rx ry ⟨i, j, rfl, rfl, hc, go.now hR hr (hz H I i j)⟩
theorem op_ints0 {f : Value → Value → Sem Value} {g : F2} {z : Int → Int → V} (d : Int → Int → D) (hz : ∀ H I i j, RD X.K H I (d i j) (z i j)) (o : OpR X f (rI0 z))
    (hg : ∀ x y h R, g x y h R → ∃ i j, x = .int i ∧ y = .int j ∧ R (d i j) h) : DOp X f g := by
  intro pins s σ H x y v u Q J rx ry ⟨I, dx, dy, h, R, hr, rdx, rdy, hf, go⟩
  obtain ⟨i, j, rfl, rfl, hR⟩ := hg dx dy h R hf
  cases rdx
  cases rdy
  exact o pins s σ H _ _ v u Q J rx ry ⟨i, j, rfl, rfl, go.now hR hr (hz H I i j)⟩
theorem o_sub : DOp X (binaryOp .Sub) fSub := op_ints0 (fun i j => .int (i - j)) (fun _ _ _ _ => .int _) op_sub fun x y h R q => by
  unfold fSub at q
  split at q
  · exact ⟨_, _, rfl, rfl, q⟩
  · exact q.elim
theorem o_mod : DOp X (binaryOp .Mod) fMod := op_ints (fun i j => .int (i % j)) (fun _ _ _ _ => .int _) op_mod fun x y h R q => by
  unfold fMod at q
  split at q
  · exact ⟨_, _, rfl, rfl, q⟩
  · exact q.elim
theorem o_div : DOp X (binaryOp .FloorDiv) fDiv := op_ints (fun i j => .int (i / j)) (fun _ _ _ _ => .int _) op_fdivW fun x y h R q => by
  unfold fDiv at q
  split at q
  · exact ⟨_, _, rfl, rfl, q⟩
  · exact q.elim
theorem o_pow : DOp X (binaryOp .Pow) fPow := op_ints (fun i j => .int (i ^ j.toNat)) (fun _ _ _ _ => .int _) op_pow fun x y h R q => by
  unfold fPow at q
  split at q
  · exact ⟨_, _, rfl, rfl, q⟩
  · exact q.elim
theorem op_mulOk : OpR X (binaryOp .Mult) (rI MulOk fun i j => .int (i * j)) := by
  intro pins s σ H x y v u Q J rx ry ⟨i, j, ex, ey, hc, q⟩
  rcases hc with hc | hc
  · exact op_mul pins s σ H x y v u Q J rx ry ⟨i, j, ex, ey, hc, q⟩
  · exact op_mulW pins s σ H x y v u Q J rx ry ⟨i, j, ex, ey, hc, q⟩
theorem o_mul : DOp X (binaryOp .Mult) fMul := op_ints (fun i j => .int (i * j)) (fun _ _ _ _ => .int _) op_mulOk fun x y h R q => by
  unfold fMul at q
  split at q
  · exact ⟨_, _, rfl, rfl, q⟩
  · exact q.elim
theorem o_add : DOp X (binaryOp .Add) fAdd := by
  intro pins s σ H x y v u Q J rx ry ⟨I, dx, dy, h, R, hr, rdx, rdy, hf, go⟩
  unfold fAdd at hf
  split at hf
  · cases rdx
    cases rdy
    exact op_add pins s σ H _ _ v u Q J rx ry ⟨_, _, rfl, rfl, go.now hf hr (.int _)⟩
  · cases rdx
    cases rdy
    exact op_add_str pins s σ H _ _ v u Q J rx ry ⟨_, _, rfl, rfl, hf.1, go.now hf.2 hr (.str _)⟩
  · cases rdx with
    | tup a1 b1 =>
    cases rdy with
    | tup a2 b2 =>
    refine op_catA pins s σ H _ _ v u Q J rx ry ⟨_, _, _, _, rfl, rfl, a1.sq, a2.sq, by rw [← b1.length, ← b2.length]; exact hf.1, fun z => ?_, fun _ z => ?_, fun _ _ => go.tup hf.2 hr (b1.append b2)⟩
    · subst z
      cases b1
      exact go.now hf.2 hr (.tup a2 b2)
    · subst z
      cases b2
      have hR := hf.2
      rw [List.append_nil] at hR
      exact go.now hR hr (.tup a1 b1)
  · obtain ⟨xs, ys, e1, e2, hl, hR⟩ := hf
    obtain ⟨p, vs, rfl, q1, r1⟩ := lsv_ok hr rdx e1
    obtain ⟨p2, ws, rfl, q2, r2⟩ := lsv_ok hr rdy e2
    exact op_cat pins s σ H _ _ v u Q J rx ry ⟨p, p2, vs, ws, rfl, rfl, q1, q2, by rw [← r1.length, ← r2.length]; exact hl, go.lst hR hr (r1.append r2)⟩
theorem o_neg : UnR X (unaryOp .USub) (up1 X.K fNeg) := by
  intro pins s σ H x v Q J rx ⟨I, dx, h, R, hr, rdx, hf, go⟩
  unfold fNeg at hf
  split at hf
  · cases rdx
    exact un_neg pins s σ H _ v Q J rx ⟨_, rfl, go.now hf hr (.int _)⟩
  · exact hf.elim
end

/-! ### comparisons -/
def fLt : F2 := fun x y h R => match x, y with
  | .int i, .int j => R (.bl (decide (i < j))) h
  | .str a, .str b => R (.bl (decide (a.cps.toList < b.cps.toList))) h
  | _, _ => False
def fLe : F2 := fun x y h R => match x, y with
  | .int i, .int j => R (.bl (decide (i ≤ j))) h
  | _, _ => False
def fGt : F2 := fun x y h R => match x, y with
  | .int i, .int j => R (.bl (decide (j < i))) h
  | _, _ => False
def fGe : F2 := fun x y h R => match x, y with
  | .int i, .int j => R (.bl (decide (j ≤ i))) h
  | _, _ => False
def fIsN : F2 := fun x y h R => match y with
  | .non => (match x with
    | .non => R (.bl true) h
    | _ => R (.bl false) h)
  | _ => False
def fNotN : F2 := fun x y h R => match y with
  | .non => (match x with
    | .non => R (.bl false) h
    | _ => R (.bl true) h)
  | _ => False
mutual
def toP : D → Option PyData
  | .non => some .none
  | .bl b => some (.bool b)
  | .int i => some (.int i)
  | .str x => some (.str x)
  | .tup ds => (toPs ds).map .tuple
  | .lst ds => (toPs ds).map .list
  | .scr ds => (toPs ds).map .list
  | .dct _ _ => none
  | .ins _ _ _ => none
  | .ref _ => none
  | .obj _ => none
  | .ty _ => none
def toPs : List D → Option (List PyData)
  | [] => some []
  | d :: ds => match toP d, toPs ds with
    | some p, some ps => some (p :: ps)
    | _, _ => none
end
/-- what is read of a value: an object of ours as its content -/
def vw (h : OS) : D → D
  | .ref n => match h[n]? with
    | some (.lst ds) => .lst ds
    | some (.dct qs) => .dct (qs.map (·.1)) (qs.map (·.2))
    | some (.fdc qs) => .dct (qs.map (·.1)) (qs.map (·.2))
    | some (.ins C qs) => .ins C (qs.map (·.1)) (qs.map (·.2))
    | none => .ref n
  | d => d
def fEq : F2 := fun x y h R => match x, y with
  | .int i, .int j => R (.bl (decide (i = j))) h
  | .str a, .str b => R (.bl (decide (a = b))) h
  | .bl a, .bl b => R (.bl (decide (a = b))) h
  | x, y => ∃ a b, toP (vw h x) = some a ∧ toP (vw h y) = some b ∧ SeqAt.shaped a = true ∧ SeqAt.shaped b = true ∧ R (.bl (PyData.eqv a b)) h
def fNe : F2 := fun x y h R => match x, y with
  | .int i, .int j => R (.bl (!decide (i = j))) h
  | .str a, .str b => R (.bl (!decide (a = b))) h
  | .bl a, .bl b => R (.bl (!decide (a = b))) h
  | x, y => ∃ a b, toP (vw h x) = some a ∧ toP (vw h y) = some b ∧ SeqAt.shaped a = true ∧ SeqAt.shaped b = true ∧ R (.bl (!PyData.eqv a b)) h
section
variable {X : Cx}
theorem o_lt : DOp X (compareOp .Lt) fLt := by
  intro pins s σ H x y v u Q J rx ry ⟨I, dx, dy, h, R, hr, rdx, rdy, hf, go⟩
  unfold fLt at hf
  split at hf
  · cases rdx
    cases rdy
    exact op_lt pins s σ H _ _ v u Q J rx ry ⟨_, _, rfl, rfl, go.now hf hr (.bl _)⟩
  · cases rdx
    cases rdy
    exact op_lt_str pins s σ H _ _ v u Q J rx ry ⟨_, _, rfl, rfl, go.now hf hr (.bl _)⟩
  · exact hf.elim
theorem o_le : DOp X (compareOp .LtE) fLe := op_ints0 (fun i j => .bl (decide (i ≤ j))) (fun _ _ _ _ => .bl _) op_le fun x y h R q => by
  unfold fLe at q
  split at q
  · exact ⟨_, _, rfl, rfl, q⟩
  · exact q.elim
theorem o_gt : DOp X (compareOp .Gt) fGt := op_ints0 (fun i j => .bl (decide (j < i))) (fun _ _ _ _ => .bl _) op_gt fun x y h R q => by
  unfold fGt at q
  split at q
  · exact ⟨_, _, rfl, rfl, q⟩
  · exact q.elim
theorem o_ge : DOp X (compareOp .GtE) fGe := op_ints0 (fun i j => .bl (decide (j ≤ i))) (fun _ _ _ _ => .bl _) op_ge fun x y h R q => by
  unfold fGe at q
  split at q
  · exact ⟨_, _, rfl, rfl, q⟩
  · exact q.elim
theorem RD.non_iff {K : Fg} {H : Hp} {I : List Addr} {d : D} {v : V} (r : RD K H I d v) : v = .non ↔ d = .non := by
  cases r <;> simp
theorem o_isN : DOp X (compareOp .Is) fIsN := by
  intro pins s σ H x y v u Q J rx ry ⟨I, dx, dy, h, R, hr, rdx, rdy, hf, go⟩
  unfold fIsN at hf
  split at hf
  · cases rdy
    refine op_isN pins s σ H _ _ v u Q J rx ry ⟨rfl, ?_⟩
    split at hf
    · cases rdx
      exact go.now hf hr (.bl _)
    · rename_i hn
      have e : decide (x = V.non) = false := decide_eq_false (fun z => hn (rdx.non_iff.mp z))
      rw [e]
      exact go.now hf hr (.bl _)
  · exact hf.elim
theorem o_notN : DOp X (compareOp .IsNot) fNotN := by
  intro pins s σ H x y v u Q J rx ry ⟨I, dx, dy, h, R, hr, rdx, rdy, hf, go⟩
  unfold fNotN at hf
  split at hf
  · cases rdy
    refine op_notN pins s σ H _ _ v u Q J rx ry ⟨rfl, ?_⟩
    split at hf
    · cases rdx
      exact go.now hf hr (.bl _)
    · rename_i hn
      have e : decide (x = V.non) = false := decide_eq_false (fun z => hn (rdx.non_iff.mp z))
      rw [e]
      exact go.now hf hr (.bl _)
  · exact hf.elim
mutual
theorem dp_of {K : Fg} {H : Hp} {I : List Addr} : ∀ {d : D} {v : V} {p : PyData}, RD K H I d v → toP d = some p → Dp K H v p
  | _, _, _, .non, e => by
    cases e
    exact .non
  | _, _, _, .bl b, e => by
    cases e
    exact .bl b
  | _, _, _, .int i, e => by
    cases e
    exact .int i
  | _, _, _, .str x, e => by
    cases e
    exact .str x
  | _, _, _, .ty _, e => by cases e
  | _, _, _, .obj _, e => by cases e
  | _, _, _, .ref _, e => by cases e
  | _, _, _, .dct _ _ _ _, e => by cases e
  | _, _, _, .ins _ _ _ _, e => by cases e
  | _, _, _, .scr (ds := ds) q r, e => by
    unfold toP at e
    cases hq : toPs ds with
    | none =>
      rw [hq] at e
      cases e
    | some ps =>
      rw [hq] at e
      cases e
      exact .lst q.sq (dps_of r hq)
  | _, _, _, .tup (ds := ds) q r, e => by
    unfold toP at e
    cases hq : toPs ds with
    | none =>
      rw [hq] at e
      cases e
    | some ps =>
      rw [hq] at e
      cases e
      exact .tup q.sq (dps_of r hq)
  | _, _, _, .lst (ds := ds) q n r, e => by
    unfold toP at e
    cases hq : toPs ds with
    | none =>
      rw [hq] at e
      cases e
    | some ps =>
      rw [hq] at e
      cases e
      exact .lst (SqL.of q) (dps_of r hq)
theorem dps_of {K : Fg} {H : Hp} {I : List Addr} : ∀ {ds : List D} {vs : List V} {ps : List PyData}, RDs K H I ds vs → toPs ds = some ps → DpAll K H vs ps
  | _, _, _, .nil, e => by
    cases e
    exact .nil
  | _, _, _, .cons (d := d) (ds := ds) a r, e => by
    unfold toPs at e
    cases h1 : toP d with
    | none =>
      rw [h1] at e
      simp at e
    | some p =>
      cases h2 : toPs ds with
      | none =>
        rw [h1, h2] at e
        simp at e
      | some ps =>
        rw [h1, h2] at e
        cases e
        exact .cons (dp_of a h1) (dps_of r h2)
end
theorem dp_vw {K : Fg} {H : Hp} {I : List Addr} {h : OS} {d : D} {v : V} {p : PyData} (hr : HR K I h H) (r : RD K H I d v) (e : toP (vw h d) = some p) : Dp K H v p := by
  cases d with
  | ref n =>
    obtain ⟨a, rfl, q⟩ := r.refv
    unfold vw at e
    simp only at e
    split at e
    · rename_i ds z
      obtain ⟨xs, q2, r2⟩ := hr.ob n a _ q z
      unfold toP at e
      cases hq : toPs ds with
      | none =>
        rw [hq] at e
        cases e
      | some ps =>
        rw [hq] at e
        cases e
        exact .lst (SqL.of q2) (dps_of r2 hq)
    · cases e
    · cases e
    · cases e
    · cases e
  | _ => exact dp_of r e
theorem o_eq (hu : X.A.units + 64 < cLine) : DOp X (compareOp .Eq) fEq := by
  intro pins s σ H x y v u Q J rx ry ⟨I, dx, dy, h, R, hr, rdx, rdy, hf, go⟩
  unfold fEq at hf
  split at hf
  · cases rdx
    cases rdy
    refine op_eq pins s σ H _ _ v u Q J rx ry ⟨rfl, ?_⟩
    rw [dec_int]
    exact go.now hf hr (.bl _)
  · cases rdx
    cases rdy
    refine op_eq pins s σ H _ _ v u Q J rx ry ⟨rfl, ?_⟩
    rename_i a b
    have e : decide (V.str a = V.str b) = decide (a = b) := decide_eq_decide.mpr ⟨fun z => by injection z, fun z => by rw [z]⟩
    rw [e]
    exact go.now hf hr (.bl _)
  · cases rdx
    cases rdy
    refine op_eq pins s σ H _ _ v u Q J rx ry ⟨rfl, ?_⟩
    rename_i a b
    have e : decide (V.bl a = V.bl b) = decide (a = b) := decide_eq_decide.mpr ⟨fun z => by injection z, fun z => by rw [z]⟩
    rw [e]
    exact go.now hf hr (.bl _)
  · obtain ⟨a, b, e1, e2, s1, s2, hR⟩ := hf
    exact op_eqD hu pins s σ H _ _ v u Q J rx ry ⟨a, b, dp_vw hr rdx e1, dp_vw hr rdy e2, s1, s2, go.now hR hr (.bl _)⟩
theorem o_ne (hu : X.A.units + 64 < cLine) : DOp X (compareOp .NotEq) fNe := by
  intro pins s σ H x y v u Q J rx ry ⟨I, dx, dy, h, R, hr, rdx, rdy, hf, go⟩
  unfold fNe at hf
  split at hf
  · cases rdx
    cases rdy
    refine op_ne pins s σ H _ _ v u Q J rx ry ⟨rfl, ?_⟩
    rw [dec_int]
    exact go.now hf hr (.bl _)
  · cases rdx
    cases rdy
    refine op_ne pins s σ H _ _ v u Q J rx ry ⟨rfl, ?_⟩
    rename_i a b
    have e : decide (V.str a = V.str b) = decide (a = b) := decide_eq_decide.mpr ⟨fun z => by injection z, fun z => by rw [z]⟩
    rw [e]
    exact go.now hf hr (.bl _)
  · cases rdx
    cases rdy
    refine op_ne pins s σ H _ _ v u Q J rx ry ⟨rfl, ?_⟩
    rename_i a b
    have e : decide (V.bl a = V.bl b) = decide (a = b) := decide_eq_decide.mpr ⟨fun z => by injection z, fun z => by rw [z]⟩
    rw [e]
    exact go.now hf hr (.bl _)
  · obtain ⟨a, b, e1, e2, s1, s2, hR⟩ := hf
    exact op_neD hu pins s σ H _ _ v u Q J rx ry ⟨a, b, dp_vw hr rdx e1, dp_vw hr rdy e2, s1, s2, go.now hR hr (.bl _)⟩
end

/-! ### in, not in -/
def flatD : D → Bool
  | .non => true
  | .bl _ => true
  | .int _ => true
  | .str _ => true
  | _ => false
def eqF : D → D → Bool
  | .non, .non => true
  | .bl a, .bl b => a == b
  | .bl a, .int b => (if a then 1 else 0) == b
  | .int a, .bl b => a == (if b then 1 else 0)
  | .int a, .int b => a == b
  | .str a, .str b => a == b
  | _, _ => false
/-- x in a list or tuple of flat things; one sign in a text -/
def fIn (neg : Bool) : F2 := fun x y h R => match y with
  | .str z => ∃ c, x = .str ⟨#[c]⟩ ∧ R (.bl (if neg then !decide (c ∈ z.cps.toList) else decide (c ∈ z.cps.toList))) h
  | y => ∃ k ds, sqv h y = some (k, ds) ∧ flatD x = true ∧ ds.all flatD = true ∧ R (.bl (if neg then !(ds.any fun z => eqF z x) else ds.any fun z => eqF z x)) h
section
variable {X : Cx} {K : Fg} {H : Hp} {I : List Addr}
theorem flat_of {d : D} {v : V} (r : RD K H I d v) (f : flatD d = true) : flatV v = true := by
  cases r <;> first | rfl | cases f
theorem eqF_of {d e : D} {v w : V} (r : RD K H I d v) (q : RD K H I e w) (f : flatD d = true) (g : flatD e = true) : eqV v w = eqF d e := by
  cases r <;> cases q <;> first | rfl | exact absurd f Bool.false_ne_true | exact absurd g Bool.false_ne_true
theorem flats_of : ∀ {ds : List D} {vs : List V}, RDs K H I ds vs → ds.all flatD = true → vs.all flatV = true
  | _, _, .nil, _ => rfl
  | _, _, .cons a r, f => by
    rw [List.all_cons, Bool.and_eq_true] at f
    rw [List.all_cons, Bool.and_eq_true]
    exact ⟨flat_of a f.1, flats_of r f.2⟩
theorem anyF_of {d : D} {v : V} (q : RD K H I d v) (g : flatD d = true) : ∀ {ds : List D} {vs : List V}, RDs K H I ds vs → ds.all flatD = true → (vs.any fun y => eqV y v) = ds.any fun z => eqF z d
  | _, _, .nil, _ => rfl
  | _, _, .cons a r, f => by
    rw [List.all_cons, Bool.and_eq_true] at f
    rw [List.any_cons, List.any_cons, eqF_of a q f.1 g, anyF_of q g r f.2]
theorem o_in : DOp X (compareOp .In) (fIn false) := by
  intro pins s σ H x y v u Q J rx ry ⟨I, dx, dy, h, R, hr, rdx, rdy, hf, go⟩
  unfold fIn at hf
  split at hf
  · obtain ⟨c, rfl, hR⟩ := hf
    cases rdx
    cases rdy
    exact op_in_sign pins s σ H _ _ v u Q J rx ry ⟨c, _, rfl, rfl, go.now hR hr (.bl _)⟩
  · obtain ⟨k, ds, e, f1, f2, hR⟩ := hf
    obtain ⟨p, xs, rfl, hs, rs⟩ := sqv_ok hr rdy e
    refine op_in_seq pins s σ H _ _ v u Q J rx ry ⟨p, xs, rfl, hs.imp (·.2) (·.2), flat_of rdx f1, flats_of rs f2, ?_⟩
    unfold inV
    rw [anyF_of rdx f1 rs f2]
    exact go.now hR hr (.bl _)
theorem o_notIn : DOp X (compareOp .NotIn) (fIn true) := by
  intro pins s σ H x y v u Q J rx ry ⟨I, dx, dy, h, R, hr, rdx, rdy, hf, go⟩
  unfold fIn at hf
  split at hf
  · obtain ⟨c, rfl, hR⟩ := hf
    cases rdx
    cases rdy
    exact op_notIn_sign pins s σ H _ _ v u Q J rx ry ⟨c, _, rfl, rfl, go.now hR hr (.bl _)⟩
  · obtain ⟨k, ds, e, f1, f2, hR⟩ := hf
    obtain ⟨p, xs, rfl, hs, rs⟩ := sqv_ok hr rdy e
    refine op_notIn_seq pins s σ H _ _ v u Q J rx ry ⟨p, xs, rfl, hs.imp (·.2) (·.2), flat_of rdx f1, flats_of rs f2, ?_⟩
    unfold inV
    rw [anyF_of rdx f1 rs f2]
    exact go.now hR hr (.bl _)
end

/-! ### subscripts, slices -/
def fIx : F2 := fun x y h R => ∃ i, y = .int i ∧ match x with
  | .str z => z.length ≤ sizeLine ∧ ∃ c, atI z.cps.toList i = some c ∧ R (.str ⟨#[c]⟩) h
  | x => ∃ k ds d, sqv h x = some (k, ds) ∧ atI ds i = some d ∧ R d h
theorem atI_rd {K : Fg} {H : Hp} {I : List Addr} {ds : List D} {vs : List V} {i : Int} {d : D} (r : RDs K H I ds vs) (e : atI ds i = some d) : ∃ v, atI vs i = some v ∧ RD K H I d v := by
  unfold atI at e ⊢
  rw [← r.length]
  cases hx : ixN ds.length i with
  | none =>
    rw [hx] at e
    cases e
  | some j =>
    rw [hx] at e
    obtain ⟨v, h1, h2⟩ := r.get e
    exact ⟨v, h1, h2⟩
abbrev fSl := D → Option Int → Option Int → OS → DK → Prop
def cutD (xs : List D) (lo hi : Option Int) : List D := (xs.drop (HT.sIx xs.length 0 lo)).take (HT.sIx xs.length xs.length hi - HT.sIx xs.length 0 lo)
theorem cut_rd {K : Fg} {H : Hp} {I : List Addr} {ds : List D} {vs : List V} {lo hi : Option Int} (r : RDs K H I ds vs) : RDs K H I (cutD ds lo hi) (cutV vs lo hi) := by
  unfold cutD cutV
  rw [← r.length]
  exact (r.drop _).take _
def fCut : D → Option Int → Option Int → OS → DK → Prop := fun x lo hi h R => match x with
  | .str z => z.length ≤ sizeLine ∧ R (.str (cutS z lo hi)) h
  | x => ∃ k ds, sqv h x = some (k, ds) ∧ R (if k = true then .lst (cutD ds lo hi) else .tup (cutD ds lo hi)) h
/-- .. where the new list is to be one of ours -/
def fCutN : D → Option Int → Option Int → OS → DK → Prop := fun x lo hi h R => ∃ ds, sqv h x = some (true, ds) ∧ R (.ref h.length) (h ++ [.lst (cutD ds lo hi)])
def upS3 (K : Fg) (f : D → Option Int → Option Int → OS → DK → Prop) : V → Option Int → Option Int → Hp → VK → Prop := fun x lo hi H Q => ∃ I dx h R, HR K I h H ∧ RD K H I dx x ∧ f dx lo hi h R ∧ Go K I H R Q
abbrev TDO := DS → OS → (Option Int → OS → Prop) → Prop
def upO (K : Fg) (t : TDO) : TO := fun σ H Q => ∃ I δ h R, SR K H I δ σ ∧ HR K I h H ∧ t δ h R ∧ ∀ o h' I' H', R o h' → Stp I H I' H' → HR K I' h' H' → Q o H'
abbrev DO (X : Cx) (e : Option Expr) (t : TDO) : Prop := PO X e (upO X.K t)
def dNoPart : TDO := fun _ h R => R none h
def dPart (t : TDE) : TDO := fun δ h R => t δ h fun x h1 => ∃ i, x = .int i ∧ R (some i) h1
def dSl (f : D → Option Int → Option Int → OS → DK → Prop) (te : TDE) (tl th : TDO) : TDE := fun δ h R => te δ h fun x h1 => tl δ h1 fun l h2 => th δ h2 fun u h3 => f x l u h3 R
section
variable {X : Cx} {a b e : Expr} {ta tb te : TDE} {lo hi : Option Expr} {tl th : TDO} {pos p2 : Pos}
theorem o_ix : IxR X (up2 X.K fIx) := by
  intro value slice pins s σ H x y v u Q J rx ry ⟨I, dx, dy, h, R, hr, rdx, rdy, ⟨i, e1, hf⟩, go⟩ hs
  subst e1
  cases rdy
  split at hf
  · obtain ⟨hl, c, e2, hR⟩ := hf
    cases rdx
    exact ix_str value slice pins s σ H _ _ v u Q J rx ry ⟨_, i, c, rfl, rfl, hl, e2, go.now hR hr (.str _)⟩ hs
  · obtain ⟨k, ds, d, e2, e3, hR⟩ := hf
    obtain ⟨p, xs, rfl, hq, rs⟩ := sqv_ok hr rdx e2
    obtain ⟨w, e4, rw'⟩ := atI_rd rs e3
    rcases hq with ⟨_, hq⟩ | ⟨_, hq⟩
    · exact ix_list value slice pins s σ H _ _ v u Q J rx ry ⟨p, xs, i, w, rfl, rfl, hq, e4, go.now hR hr rw'⟩ hs
    · exact ix_tup value slice pins s σ H _ _ v u Q J rx ry ⟨p, xs, i, w, rfl, rfl, hq, e4, go.now hR hr rw'⟩ hs
theorem d_ix (ha : DE X a ta) (hb : DE X b tb) (hs : PlainIx b := by exact fun _ _ => rfl) : DE X (.Subscript a b pos) (dOp fIx ta tb) := PE.imp (pe_ix o_ix ha hb hs) fun _ _ _ => up_op
theorem do_none : DO X none dNoPart := ⟨fun pins s σ H Q J ⟨I, δ, h, R, sr, hr, r, g⟩ => po_none.run pins s σ H Q J (g none h I H r Stp.refl hr)⟩
theorem do_some (he : DE X e te) : DO X (some e) (dPart te) := ⟨fun pins s σ H Q J ⟨I, δ, h, R, sr, hr, r, g⟩ => (po_some he).run pins s σ H Q J
  ⟨I, δ, h, _, sr, hr, r, fun d h1 I1 H1 v ⟨i, e1, hR⟩ s1 hr1 rv => by
    subst e1
    cases rv
    exact ⟨i, rfl, g _ h1 I1 H1 hR s1 hr1⟩⟩⟩
theorem up_sl {K : Fg} {f : D → Option Int → Option Int → OS → DK → Prop} {σ : St} {H : Hp} {Q : VK} (q : up K (dSl f te tl th) σ H Q) : tSl (upS3 K f) (up K te) (upO K tl) (upO K th) σ H Q := by
  obtain ⟨I, δ, h, R, sr, hr, ht, g⟩ := q
  refine ⟨I, δ, h, _, sr, hr, ht, fun dx h1 I1 H1 x hR s1 hr1 rx => ?_⟩
  refine ⟨I1, δ, h1, _, sr.step s1, hr1, hR, fun l h2 I2 H2 hR2 s2 hr2 => ?_⟩
  refine ⟨I2, δ, h2, _, (sr.step s1).step s2, hr2, hR2, fun u h3 I3 H3 hR3 s3 hr3 => ?_⟩
  exact ⟨I3, dx, h3, R, hr3, rx.step (s2.trans s3), hR3, g.after (s1.trans (s2.trans s3))⟩
theorem o_cut : SlR X (upS3 X.K fCut) := by
  intro pins s σ H x v vl vu lo hi sl Q J rx hs pl pu ⟨I, dx, h, R, hr, rdx, hf, go⟩
  unfold fCut at hf
  split at hf
  · cases rdx
    exact sl_str pins s σ H _ v vl vu lo hi sl Q J rx hs pl pu ⟨_, rfl, hf.1, go.now hf.2 hr (.str _)⟩
  · obtain ⟨k, ds, e2, hR⟩ := hf
    obtain ⟨p, xs, rfl, hq, rs⟩ := sqv_ok hr rdx e2
    rcases hq with ⟨hk, hq⟩ | ⟨hk, hq⟩
    · subst hk
      exact sl_list pins s σ H _ v vl vu lo hi sl Q J rx hs pl pu ⟨p, xs, rfl, hq, go.lst hR hr (cut_rd rs)⟩
    · subst hk
      refine sl_tupA pins s σ H _ v vl vu lo hi sl Q J rx hs pl pu ⟨p, xs, rfl, hq, fun z => ?_, fun _ => go.tup hR hr (cut_rd rs)⟩
      have hR' : R (.tup (cutD ds lo hi)) h := hR
      have e : cutD ds lo hi = ds := by
        unfold cutD
        rw [rs.length, z.1, z.2]
        simp [rs.length.symm]
      rw [e] at hR'
      refine go.now hR' hr ?_
      cases dx with
      | tup es =>
        cases e2
        exact rdx
      | ref n =>
        unfold sqv at e2
        simp only at e2
        split at e2 <;> cases e2
      | _ => cases e2
theorem o_cutN : SlR X (upS3 X.K fCutN) := by
  intro pins s σ H x v vl vu lo hi sl Q J rx hs pl pu ⟨I, dx, h, R, hr, rdx, ⟨ds, e2, hR⟩, go⟩
  obtain ⟨p, xs, rfl, hq, rs⟩ := sqv_ok hr rdx e2
  rcases hq with ⟨hk, hq⟩ | ⟨hk, hq⟩
  · exact sl_list pins s σ H _ v vl vu lo hi sl Q J rx hs pl pu ⟨p, xs, rfl, hq, go.lstN hR hr (cut_rd rs)⟩
  · cases hk
theorem d_sl (he : DE X e te) (hl : DO X lo tl) (hh : DO X hi th) : DE X (.Subscript e (.Slice lo hi none p2) pos) (dSl fCut te tl th) := PE.imp (pe_slice o_cut he hl hh) fun _ _ _ => up_sl
theorem d_slN (he : DE X e te) (hl : DO X lo tl) (hh : DO X hi th) : DE X (.Subscript e (.Slice lo hi none p2) pos) (dSl fCutN te tl th) := PE.imp (pe_slice o_cutN he hl hh) fun _ _ _ => up_sl
end

/-! ### tests -/
def dAnd (t u : TDT) : TDT := fun δ h R => t δ h fun c h1 => if c = true then u δ h1 R else R false h1
def dOr (t u : TDT) : TDT := fun δ h R => t δ h fun c h1 => if c = true then R true h1 else u δ h1 R
def dNot (t : TDT) : TDT := fun δ h R => t δ h fun c h1 => R (!c) h1
/-- a truth as a test -/
def dB (t : TDE) : TDT := fun δ h R => t δ h fun x h1 => ∃ c, x = .bl c ∧ R c h1
def dIf (t : TDT) (ta tb : TDE) : TDE := fun δ h R => t δ h fun c h1 => if c = true then ta δ h1 R else tb δ h1 R
def dAndV (ta tb : TDE) : TDE := fun δ h R => ta δ h fun x h1 => ∃ c, x = .bl c ∧ if c = true then tb δ h1 R else R (.bl false) h1
def dOrV (ta tb : TDE) : TDE := fun δ h R => ta δ h fun x h1 => ∃ c, x = .bl c ∧ if c = true then R (.bl true) h1 else tb δ h1 R
def dNotV (ta : TDE) : TDE := fun δ h R => ta δ h fun x h1 => ∃ c, x = .bl c ∧ R (.bl (!c)) h1
def dChain (f f' : F2) (ta tb tc : TDE) : TDE := fun δ h R => ta δ h fun x h1 => tb δ h1 fun y h2 => f x y h2 fun z h3 => ∃ k, z = .bl k ∧ (if k = true then tc δ h3 fun w h4 => f' y w h4 R else R (.bl false) h3)
section
variable {X : Cx} {a b c : Expr} {t u : TDT} {ta tb tc : TDE} {pos : Pos} {rest : List Expr} {f f' : F2}
theorem upT_and {K : Fg} {σ : St} {H : Hp} {Q : Bool → Hp → Prop} (q : upT K (dAnd t u) σ H Q) : tAnd (upT K t) (upT K u) σ H Q := by
  obtain ⟨I, δ, h, R, sr, hr, ht, g⟩ := q
  refine ⟨I, δ, h, _, sr, hr, ht, fun b h1 I1 H1 hR s1 hr1 => ?_⟩
  cases b with
  | true => exact ⟨I1, δ, h1, R, sr.step s1, hr1, hR, g.after s1⟩
  | false => exact g _ h1 I1 H1 hR s1 hr1
theorem upT_or {K : Fg} {σ : St} {H : Hp} {Q : Bool → Hp → Prop} (q : upT K (dOr t u) σ H Q) : tOr (upT K t) (upT K u) σ H Q := by
  obtain ⟨I, δ, h, R, sr, hr, ht, g⟩ := q
  refine ⟨I, δ, h, _, sr, hr, ht, fun b h1 I1 H1 hR s1 hr1 => ?_⟩
  cases b with
  | true => exact g _ h1 I1 H1 hR s1 hr1
  | false => exact ⟨I1, δ, h1, R, sr.step s1, hr1, hR, g.after s1⟩
theorem w_and1 (ha : DT X a t) : DWt X (.BoolOp .And [a] pos) t := pw_and1 ha
theorem w_or1 (ha : DT X a t) : DWt X (.BoolOp .Or [a] pos) t := pw_or1 ha
theorem w_and (ha : DT X a t) (hb : DWt X (.BoolOp .And (b :: rest) pos) u) : DWt X (.BoolOp .And (a :: b :: rest) pos) (dAnd t u) := PW.imp (pw_and ha hb) fun _ _ _ => upT_and
theorem w_or (ha : DT X a t) (hb : DWt X (.BoolOp .Or (b :: rest) pos) u) : DWt X (.BoolOp .Or (a :: b :: rest) pos) (dOr t u) := PW.imp (pw_or ha hb) fun _ _ _ => upT_or
theorem t_w {e : Expr} (h : DWt X e t) : DT X e t := h.pt
theorem t_not (ha : DT X a t) : DT X (.UnaryOp .Not a pos) (dNot t) := PT.imp (pt_not ha) fun σ H Q ⟨I, δ, h, R, sr, hr, ht, g⟩ => ⟨I, δ, h, _, sr, hr, ht, fun b h1 I1 H1 hR s1 hr1 => g _ h1 I1 H1 hR s1 hr1⟩
theorem up_b {K : Fg} {σ : St} {H : Hp} {Q : Bool → Hp → Prop} (q : upT K (dB ta) σ H Q) : tB (up K ta) σ H Q := by
  obtain ⟨I, δ, h, R, sr, hr, ht, g⟩ := q
  refine ⟨I, δ, h, _, sr, hr, ht, fun d h1 I1 H1 v ⟨c, e, hR⟩ s1 hr1 rv => ?_⟩
  subst e
  cases rv
  exact ⟨c, rfl, g _ h1 I1 H1 hR s1 hr1⟩
/-- an expression (name, call, subscript, attribute) that is a truth -/
theorem t_val {e : Expr} (he : DE X e ta) (hw : ∀ whole, isTrue e X.env whole = (do let v ← whole; standAt e.pos; holding [v] (truthy v)) := by intro _; rfl) : DT X e (dB ta) := PT.imp (pt_val he hw) fun _ _ _ => up_b
theorem t_cmp {op : CmpOp} (ho : DOp X (compareOp op) f) (ha : DE X a ta) (hb : DE X b tb) (hm : behindInMarks op b = false := by first | exact nomark _ | with_unfolding_all rfl) : DT X (.Compare a [op] [b] pos) (dB (dOp f ta tb)) :=
  PT.imp (pt_cmpR ho ha hb hm) fun σ H Q q => up_op (by
    obtain ⟨I, δ, h, R, sr, hr, ht, g⟩ := q
    refine ⟨I, δ, h, _, sr, hr, ht, fun d h1 I1 H1 v ⟨c, e, hR⟩ s1 hr1 rv => ?_⟩
    subst e
    cases rv
    exact ⟨c, rfl, g _ h1 I1 H1 hR s1 hr1⟩)
theorem up_chain {K : Fg} {σ : St} {H : Hp} {Q : VK} (q : up K (dChain f f' ta tb tc) σ H Q) : tChain (up2 K f) (up2 K f') (up K ta) (up K tb) (up K tc) σ H Q := by
  obtain ⟨I, δ, h, R, sr, hr, ht, g⟩ := q
  refine ⟨I, δ, h, _, sr, hr, ht, fun dx h1 I1 H1 x hR s1 hr1 rx => ?_⟩
  refine ⟨I1, δ, h1, _, sr.step s1, hr1, hR, fun dy h2 I2 H2 y hR2 s2 hr2 ry => ?_⟩
  refine ⟨I2, dx, dy, h2, _, hr2, rx.step s2, ry, hR2, fun z h3 I3 H3 w ⟨k, e, hR3⟩ s3 hr3 rz => ?_⟩
  subst e
  cases rz
  refine ⟨k, rfl, ?_⟩
  cases k with
  | true =>
    refine ⟨I3, δ, h3, _, sr.step (s1.trans (s2.trans s3)), hr3, hR3, fun dw h4 I4 H4 w' hR4 s4 hr4 rw' => ?_⟩
    exact ⟨I4, dy, dw, h4, R, hr4, ry.step (s3.trans s4), rw', hR4, g.after (s1.trans (s2.trans (s3.trans s4)))⟩
  | false => exact g _ h3 I3 H3 _ hR3 (s1.trans (s2.trans s3)) hr3 (.bl _)
theorem d_chain {op op' : CmpOp} (ho : DOp X (compareOp op) f) (ho' : DOp X (compareOp op') f') (ha : DE X a ta) (hb : DE X b tb) (hc : DE X c tc) (hm : lastMarks [op, op'] [b, c] = false := by with_unfolding_all rfl) :
    DE X (.Compare a [op, op'] [b, c] pos) (dChain f f' ta tb tc) := PE.imp (pe_chain ho ho' ha hb hc hm) fun _ _ _ => up_chain
theorem t_chain {op op' : CmpOp} (ho : DOp X (compareOp op) f) (ho' : DOp X (compareOp op') f') (ha : DE X a ta) (hb : DE X b tb) (hc : DE X c tc) (hm : lastMarks [op, op'] [b, c] = false := by with_unfolding_all rfl) :
    DT X (.Compare a [op, op'] [b, c] pos) (dB (dChain f f' ta tb tc)) :=
  PT.imp (pt_chain ho ho' ha hb hc hm) fun σ H Q q => up_chain (by
    obtain ⟨I, δ, h, R, sr, hr, ht, g⟩ := q
    refine ⟨I, δ, h, _, sr, hr, ht, fun d h1 I1 H1 v ⟨c, e, hR⟩ s1 hr1 rv => ?_⟩
    subst e
    cases rv
    exact ⟨c, rfl, g _ h1 I1 H1 hR s1 hr1⟩)
theorem d_ifExp (hc : DT X c t) (ha : DE X a ta) (hb : DE X b tb) : DE X (.IfExp c a b pos) (dIf t ta tb) := by
  refine PE.imp (pe_ifExp hc ha hb) fun σ H Q ⟨I, δ, h, R, sr, hr, ht, g⟩ => ?_
  refine ⟨I, δ, h, _, sr, hr, ht, fun b h1 I1 H1 hR s1 hr1 => ?_⟩
  cases b with
  | true => exact ⟨I1, δ, h1, R, sr.step s1, hr1, hR, g.after s1⟩
  | false => exact ⟨I1, δ, h1, R, sr.step s1, hr1, hR, g.after s1⟩
theorem d_one {op : BoolOp} (ha : DE X a ta) : DE X (.BoolOp op [a] pos) ta := pe_one ha
theorem d_and (ha : DE X a ta) (hb : DE X (.BoolOp .And (b :: rest) pos) tb) : DE X (.BoolOp .And (a :: b :: rest) pos) (dAndV ta tb) := by
  refine PE.imp (pe_and ha hb) fun σ H Q ⟨I, δ, h, R, sr, hr, ht, g⟩ => ?_
  refine ⟨I, δ, h, _, sr, hr, ht, fun x h1 I1 H1 v ⟨c, e, hR⟩ s1 hr1 rv => ?_⟩
  subst e
  cases rv
  refine ⟨c, rfl, ?_⟩
  cases c with
  | true => exact ⟨I1, δ, h1, R, sr.step s1, hr1, hR, g.after s1⟩
  | false => exact g _ h1 I1 H1 _ hR s1 hr1 (.bl _)
theorem d_or (ha : DE X a ta) (hb : DE X (.BoolOp .Or (b :: rest) pos) tb) : DE X (.BoolOp .Or (a :: b :: rest) pos) (dOrV ta tb) := by
  refine PE.imp (pe_or ha hb) fun σ H Q ⟨I, δ, h, R, sr, hr, ht, g⟩ => ?_
  refine ⟨I, δ, h, _, sr, hr, ht, fun x h1 I1 H1 v ⟨c, e, hR⟩ s1 hr1 rv => ?_⟩
  subst e
  cases rv
  refine ⟨c, rfl, ?_⟩
  cases c with
  | true => exact g _ h1 I1 H1 _ hR s1 hr1 (.bl _)
  | false => exact ⟨I1, δ, h1, R, sr.step s1, hr1, hR, g.after s1⟩
theorem d_not (ha : DE X a ta) : DE X (.UnaryOp .Not a pos) (dNotV ta) := by
  refine PE.imp (pe_not ha) fun σ H Q ⟨I, δ, h, R, sr, hr, ht, g⟩ => ?_
  refine ⟨I, δ, h, _, sr, hr, ht, fun x h1 I1 H1 v ⟨c, e, hR⟩ s1 hr1 rv => ?_⟩
  subst e
  cases rv
  exact ⟨c, rfl, g _ h1 I1 H1 _ hR s1 hr1 (.bl _)⟩
end
end FL
end
section
/-! Statements over data. -/
namespace FL
open PySem L2

/-! ### forgetting: what nobody asks any more -/
mutual
def okR (n : Nat) : D → Prop
  | .ref i => i < n
  | .tup ds => okRs n ds
  | .lst ds => okRs n ds
  | .scr ds => okRs n ds
  | .dct _ ds => okRs n ds
  | .ins _ _ ds => okRs n ds
  | .non => True
  | .bl _ => True
  | .int _ => True
  | .str _ => True
  | .ty _ => True
  | .obj _ => True
def okRs (n : Nat) : List D → Prop
  | [] => True
  | d :: ds => okR n d ∧ okRs n ds
end
theorem okRs_iff {n : Nat} : ∀ {ds : List D}, okRs n ds ↔ ∀ d ∈ ds, okR n d
  | [] => by simp [okRs]
  | d :: ds => by
    unfold okRs
    rw [okRs_iff (ds := ds)]
    simp
def okO (n : Nat) : O → Prop
  | .lst ds => okRs n ds
  | .dct qs => okRs n (qs.map (·.2))
  | .fdc qs => okRs n (qs.map (·.2))
  | .ins _ qs => okRs n (qs.map (·.2))
def okOs (n : Nat) : OS → Prop
  | [] => True
  | o :: os => okO n o ∧ okOs n os
theorem okOs_iff {n : Nat} : ∀ {os : OS}, okOs n os ↔ ∀ o ∈ os, okO n o
  | [] => by simp [okOs]
  | d :: ds => by
    unfold okOs
    rw [okOs_iff (os := ds)]
    simp
def okS (n : Nat) : DS → Prop
  | [] => True
  | some d :: r => okR n d ∧ okS n r
  | none :: r => okS n r
theorem okS_at {n : Nat} : ∀ {δ : DS} {i : Nat} {d : D}, okS n δ → δ[i]? = some (some d) → okR n d
  | [], _, _, _, e => by cases e
  | some x :: r, 0, _, h, e => by
    cases e
    exact h.1
  | none :: r, 0, _, h, e => by cases e
  | some x :: r, i + 1, _, h, e => okS_at (i := i) h.2 e
  | none :: r, i + 1, _, h, e => okS_at (i := i) (show okS n r from h) e
section
variable {K : Fg} {H : Hp} {I : List Addr} {n : Nat}
theorem ST.take {p : Addr} {xs : List V} (h : ST K H I p xs) : ST K H (I.take n) p xs := by
  rcases h with ⟨h, q⟩ | h
  · exact Or.inl ⟨h, fun m => q (List.mem_of_mem_take m)⟩
  · exact Or.inr h
theorem SZ.take {p : Addr} {xs : List V} (h : SZ K H I p xs) : SZ K H (I.take n) p xs := by
  rcases h with ⟨o, h, q⟩ | h
  · exact Or.inl ⟨o, h, fun m => q (List.mem_of_mem_take m)⟩
  · exact Or.inr h
mutual
theorem RD.take : ∀ {d : D} {v : V}, okR n d → RD K H I d v → RD K H (I.take n) d v
  | _, _, _, .non => .non
  | _, _, _, .bl b => .bl b
  | _, _, _, .int i => .int i
  | _, _, _, .str x => .str x
  | _, _, _, .ty x => .ty x
  | _, _, _, .obj a => .obj a
  | _, _, k, .ref e => .ref (by rw [List.getElem?_take_of_lt (show _ < n from k)]; exact e)
  | _, _, k, .scr e r => .scr e.take (RDs.takeI k r)
  | _, _, k, .tup e r => .tup e.take (RDs.takeI k r)
  | _, _, k, .lst e q r => .lst e (fun m => q (List.mem_of_mem_take m)) (RDs.takeI k r)
  | _, _, k, .dct e q hk r => .dct e (fun m => q (List.mem_of_mem_take m)) hk (RDs.takeI k r)
  | _, _, k, .ins e q hk r => .ins e (fun m => q (List.mem_of_mem_take m)) hk (RDs.takeI k r)
theorem RDs.takeI : ∀ {ds : List D} {vs : List V}, okRs n ds → RDs K H I ds vs → RDs K H (I.take n) ds vs
  | _, _, _, .nil => .nil
  | _, _, k, .cons a r => .cons (RD.take k.1 a) (RDs.takeI k.2 r)
end
theorem HR.drop {h g : OS} (r : HR K I (h ++ g) H) (k : okOs h.length h) : HR K (I.take h.length) h H := by
  refine ⟨?_, r.nd.sublist (List.take_sublist _ _), fun i a o hi ho => ?_⟩
  · rw [List.length_take, r.len, List.length_append]
    omega
  · have hl : i < h.length := (List.getElem?_eq_some_iff.mp ho).1
    rw [List.getElem?_take_of_lt hl] at hi
    have := r.ob i a o hi (by rw [List.getElem?_append_left hl]; exact ho)
    have k1 : okO h.length o := okOs_iff.mp k o (List.mem_of_getElem? ho)
    cases o with
    | lst ds =>
      obtain ⟨xs, q, r⟩ := this
      exact ⟨xs, q, RDs.takeI k1 r⟩
    | dct qs =>
      obtain ⟨xs, q, hk, r⟩ := this
      exact ⟨xs, q, hk, RDs.takeI k1 r⟩
    | fdc qs =>
      obtain ⟨xs, q, hk, r⟩ := this
      exact ⟨xs, q, hk, RDs.takeI k1 r⟩
    | ins C qs =>
      obtain ⟨dx, xs, q, hk, r⟩ := this
      exact ⟨dx, xs, q, hk, RDs.takeI k1 r⟩
theorem Stp.drop {I' : List Addr} {H' : Hp} (s : Stp I H I' H') (hn : I.length ≤ n) : Stp I H (I'.take n) H' := by
  refine ⟨⟨?_, s.keep, s.live⟩, s.fz⟩
  obtain ⟨new, rfl, f⟩ := s.pre
  refine ⟨new.take (n - I.length), ?_, fun p hp => f p (List.mem_of_mem_take hp)⟩
  rw [List.take_append, List.take_of_length_le hn]
end
/-- slots forgotten -/
def Less (δ' δ : DS) : Prop := δ'.length = δ.length ∧ ∀ (i : Nat) (d : D), δ'[i]? = some (some d) → δ[i]? = some (some d)
theorem Less.refl {δ : DS} : Less δ δ := ⟨rfl, fun _ _ e => e⟩
theorem less_nil : Less [] [] := Less.refl
theorem less_keep {x : Option D} {δ' δ : DS} (h : Less δ' δ) : Less (x :: δ') (x :: δ) := by
  refine ⟨by rw [List.length_cons, List.length_cons, h.1], fun i d e => ?_⟩
  cases i with
  | zero => exact e
  | succ i => exact h.2 i d e
theorem less_drop {x : Option D} {δ' δ : DS} (h : Less δ' δ) : Less (none :: δ') (x :: δ) := by
  refine ⟨by rw [List.length_cons, List.length_cons, h.1], fun i d e => ?_⟩
  cases i with
  | zero => cases e
  | succ i => exact h.2 i d e
/-- from (δ, h) to (δ', h'): some slots are forgotten; or the objects behind h' too -/
structure DrpH (m : Nat) (δ : DS) (h : OS) (δ' : DS) (h' : OS) : Prop where
  ls : Less δ' δ
  hp : ∃ g, h = h' ++ g
  lo : m ≤ h'.length
  oS : okS h'.length δ'
  oO : okOs h'.length h'
def Drp (m : Nat) (δ : DS) (h : OS) (δ' : DS) (h' : OS) : Prop := (h' = h ∧ Less δ' δ) ∨ DrpH m δ h δ' h'
theorem Drp.keep {m : Nat} {δ δ' : DS} {h : OS} (l : Less δ' δ) : Drp m δ h δ' h := Or.inl ⟨rfl, l⟩
theorem Drp.use {K : Fg} {H H0 : Hp} {I I0 : List Addr} {m : Nat} {δ δ' : DS} {h h' : OS} {σ : St} (d : Drp m δ h δ' h') (hm : I0.length = m) (r : SR K H I δ σ) (hr : HR K I h H) (st : Stp I0 H0 I H) :
    ∃ I', SR K H I' δ' σ ∧ HR K I' h' H ∧ Stp I0 H0 I' H := by
  rcases d with ⟨rfl, l⟩ | d
  · exact ⟨I, ⟨l.1.trans r.1, fun i x e => r.2 i x (l.2 i x e)⟩, hr, st⟩
  · refine ⟨I.take h'.length, ⟨d.ls.1.trans r.1, fun i x e => ?_⟩, ?_, st.drop ?_⟩
    · obtain ⟨v, q, a⟩ := r.2 i x (d.ls.2 i x e)
      exact ⟨v, q, a.take (okS_at d.oS e)⟩
    · obtain ⟨g, rfl⟩ := d.hp
      exact hr.drop d.oO
    · rw [hm]
      exact d.lo

/-! ### statements -/
structure DEnds where
  nx : DS → OS → Prop
  rt : DK
  bk : DS → OS → Prop := fun _ _ => False
  ct : DS → OS → Prop := fun _ _ => False
abbrev TDS := DEnds → DS → OS → Prop
def GoN (K : Fg) (I : List Addr) (H : Hp) (R : DS → OS → Prop) (Q : St → Hp → Prop) : Prop := ∀ δ' h' I' H' σ', R δ' h' → Stp I H I' H' → HR K I' h' H' → SR K H' I' δ' σ' → Q σ' H'
theorem GoN.after {K : Fg} {I I1 : List Addr} {H H1 : Hp} {R : DS → OS → Prop} {Q : St → Hp → Prop} (g : GoN K I H R Q) (s : Stp I H I1 H1) : GoN K I1 H1 R Q := fun d h' I' H' v r s2 => g d h' I' H' v r (s.trans s2)
structure GoS (K : Fg) (I : List Addr) (H : Hp) (ED : DEnds) (E : Ends) : Prop where
  nx : GoN K I H ED.nx E.nx
  rt : Go K I H ED.rt E.rt
  bk : GoN K I H ED.bk E.bk
  ct : GoN K I H ED.ct E.ct
theorem GoS.after {K : Fg} {I I1 : List Addr} {H H1 : Hp} {ED : DEnds} {E : Ends} (g : GoS K I H ED E) (s : Stp I H I1 H1) : GoS K I1 H1 ED E := ⟨g.nx.after s, g.rt.after s, g.bk.after s, g.ct.after s⟩
def upS (K : Fg) (t : TDS) : TS := fun E σ H => ∃ I δ h ED, SR K H I δ σ ∧ HR K I h H ∧ t ED δ h ∧ GoS K I H ED E
abbrev DSt (X : Cx) (st : Stmt) (t : TDS) : Prop := PS X st (upS X.K t)
abbrev DSs (X : Cx) (st : List Stmt) (t : TDS) : Prop := PSs X st (upS X.K t)
def dNext : TDS := fun E δ h => E.nx δ h
def dSeq (t u : TDS) : TDS := fun E δ h => t { E with nx := u E } δ h
def dBreak : TDS := fun E δ h => E.bk δ h
def dCont : TDS := fun E δ h => E.ct δ h
def dDrop (te : TDE) : TDS := fun E δ h => te δ h fun _ h1 => E.nx δ h1
def dRet (te : TDE) : TDS := fun E δ h => te δ h E.rt
def dRetN : TDS := fun E _ h => E.rt .non h
def dIfS (c : TDT) (t u : TDS) : TDS := fun E δ h => c δ h fun b h1 => if b = true then t E δ h1 else u E δ h1
section
variable {X : Cx} {st : Stmt} {rest : List Stmt} {t u : TDS} {e : Expr} {te : TDE} {pos : Pos}
theorem s_nil : DSs X [] dNext := PSs.imp pss_nil fun E σ H ⟨I, δ, h, ED, sr, hr, q, g⟩ => g.nx δ h I H σ q Stp.refl hr sr
theorem s_cons (h1 : DSt X st t) (h2 : DSs X rest u) : DSs X (st :: rest) (dSeq t u) :=
  PSs.imp (pss_cons h1 h2) fun E σ H ⟨I, δ, h, ED, sr, hr, q, g⟩ => ⟨I, δ, h, { ED with nx := u ED }, sr, hr, q, fun δ' h' I' H' σ' r s1 hr1 sr1 => ⟨I', δ', h', ED, sr1, hr1, r, g.after s1⟩, g.rt, g.bk, g.ct⟩
theorem s_one (h1 : DSt X st t) : DSs X [st] t := pss_one h1
theorem s_pass : DSt X (.Pass pos) dNext := PS.imp ps_pass fun E σ H ⟨I, δ, h, ED, sr, hr, q, g⟩ => g.nx δ h I H σ q Stp.refl hr sr
theorem s_break : DSt X (.Break pos) dBreak := PS.imp ps_break fun E σ H ⟨I, δ, h, ED, sr, hr, q, g⟩ => g.bk δ h I H σ q Stp.refl hr sr
theorem s_continue : DSt X (.Continue pos) dCont := PS.imp ps_continue fun E σ H ⟨I, δ, h, ED, sr, hr, q, g⟩ => g.ct δ h I H σ q Stp.refl hr sr
theorem s_expr (he : DE X e te) (hs : swapsWith e none pos.line X.env = pure false := by rfl) : DSt X (.Expr e pos) (dDrop te) :=
  PS.imp (ps_expr he hs) fun E σ H ⟨I, δ, h, ED, sr, hr, q, g⟩ => ⟨I, δ, h, _, sr, hr, q, fun d h1 I1 H1 v r s1 hr1 rv => g.nx δ h1 I1 H1 σ r s1 hr1 (sr.step s1)⟩
theorem s_ret (he : DE X e te) : DSt X (.Return (some e) pos) (dRet te) :=
  PS.imp (ps_ret he) fun E σ H ⟨I, δ, h, ED, sr, hr, q, g⟩ => ⟨I, δ, h, _, sr, hr, q, g.rt⟩
theorem s_retN : DSt X (.Return none pos) dRetN :=
  PS.imp ps_retN fun E σ H ⟨I, δ, h, ED, sr, hr, q, g⟩ => g.rt.now q hr .non
theorem s_if {c : Expr} {a b : List Stmt} {tc : TDT} (hc : DT X c tc) (ha : DSs X a t) (hb : DSs X b u) : DSt X (.If c a b pos) (dIfS tc t u) := by
  refine PS.imp (ps_if hc ha hb) fun E σ H ⟨I, δ, h, ED, sr, hr, q, g⟩ => ?_
  refine ⟨I, δ, h, _, sr, hr, q, fun b h1 I1 H1 r s1 hr1 => ?_⟩
  cases b with
  | true => exact ⟨I1, δ, h1, ED, sr.step s1, hr1, r, g.after s1⟩
  | false => exact ⟨I1, δ, h1, ED, sr.step s1, hr1, r, g.after s1⟩
end

/-! ### targets -/
abbrev TDG := D → DS → OS → (DS → OS → Prop) → Prop
abbrev TDGs := List D → DS → OS → (DS → OS → Prop) → Prop
def upG (K : Fg) (t : TDG) : TG := fun v σ H Q => ∃ I d δ h R, SR K H I δ σ ∧ HR K I h H ∧ RD K H I d v ∧ t d δ h R ∧ GoN K I H R Q
def upGs (K : Fg) (t : TDGs) : TGs := fun vs σ H Q => ∃ I ds δ h R, SR K H I δ σ ∧ HR K I h H ∧ RDs K H I ds vs ∧ t ds δ h R ∧ GoN K I H R Q
abbrev DG (X : Cx) (e : Expr) (t : TDG) : Prop := PG X e (upG X.K t)
abbrev DGs (X : Cx) (e : List Expr) (t : TDGs) : Prop := PGs X e (upGs X.K t)
theorem PG.imp {X : Cx} {e : Expr} {t t' : TG} (h : PG X e t) (i : ∀ v σ H Q, t' v σ H Q → t v σ H Q) : PG X e t' := ⟨fun pins s σ H v u Q I r q => h.run pins s σ H v u Q I r (i v σ H Q q)⟩
theorem PGs.imp {X : Cx} {e : List Expr} {t t' : TGs} (h : PGs X e t) (i : ∀ v σ H Q, t' v σ H Q → t v σ H Q) : PGs X e t' := ⟨fun pins s σ H v u Q I r q => h.run pins s σ H v u Q I r (i v σ H Q q)⟩
def gN (i : Nat) : TDG := fun d δ h R => R (δ.set i (some d)) h
def gsNil : TDGs := fun ds δ h R => ds = [] ∧ R δ h
def gsCons (t : TDG) (u : TDGs) : TDGs := fun ds δ h R => ∃ d r, ds = d :: r ∧ t d δ h fun δ' h' => u r δ' h' R
/-- a tuple's parts -/
def gT (n : Nat) (t : TDGs) : TDG := fun d δ h R => ∃ ds, d = .tup ds ∧ ds.length = n ∧ t ds δ h R
section
variable {X : Cx} {pos : Pos}
theorem g_name {i : Nat} {x : Str} (hN : X.N.Nodup) (hi : X.N[i]? = some x) (hx : Loc X.env.scope x) (hf : X.fn x = true ∨ X.env.scope.names.lookup x = some .local := by first | exact .inl rfl | exact .inr rfl | assumption) : DG X (.Name x pos) (gN i) :=
  PG.imp (pg_name hN hi hx hf) fun v σ H Q ⟨I, d, δ, h, R, sr, hr, rd, q, g⟩ => g _ h I H _ q Stp.refl hr (sr.set i rd)
theorem gs_nil : DGs X [] gsNil := PGs.imp pgs_nil fun vs σ H Q ⟨I, ds, δ, h, R, sr, hr, rd, ⟨e, q⟩, g⟩ => by
  subst e
  cases rd
  exact ⟨rfl, g _ h I H _ q Stp.refl hr sr⟩
theorem gs_cons {e : Expr} {es : List Expr} {t : TDG} {u : TDGs} (h1 : DG X e t) (h2 : DGs X es u)
    (hs : (assignEach (e :: es) X.env).map (·.2) = assign e X.env :: (assignEach es X.env).map (·.2) := by rfl) : DGs X (e :: es) (gsCons t u) :=
  PGs.imp (pgs_cons h1 h2 hs) fun vs σ H Q ⟨I, ds, δ, h, R, sr, hr, rd, ⟨d, r, e, q⟩, g⟩ => by
    subst e
    cases rd with
    | cons a b =>
      exact ⟨_, _, rfl, I, d, δ, h, _, sr, hr, a, q, fun δ1 h1 I1 H1 σ1 q1 s1 hr1 sr1 => ⟨I1, r, δ1, h1, R, sr1, hr1, b.step s1, q1, g.after s1⟩⟩
theorem g_tup {es : List Expr} {k : Nat} {t : TDGs} {n : Nat} (hc : X.calm = true) (h : DGs X es t)
    (hn : (assignEach es X.env).length = n := by rfl) (hst : (assignEach es X.env).findIdx? (·.1) = none := by rfl) : DG X (.Tuple es k pos) (gT n t) :=
  PG.imp (pg_tup hc h hn hst) fun v σ H Q ⟨I, d, δ, h, R, sr, hr, rd, ⟨ds, e, hl, q⟩, g⟩ => by
    subst e
    cases rd with
    | tup a b => exact ⟨_, _, rfl, a.sq, by rw [← b.length]; exact hl, I, ds, δ, h, R, sr, hr, b, q, g⟩
/-- xs[i] = v, a list of ours -/
def fSetL : D → D → D → OS → (OS → Prop) → Prop := fun o i v h R => ∃ n k ds j, o = .ref n ∧ i = .int k ∧ h[n]? = some (.lst ds) ∧ ixN ds.length k = some j ∧ R (h.set n (.lst (ds.set j v)))
def gSubL (to ti : TDE) : TDG := fun d δ h R => to δ h fun o h1 => ti δ h1 fun i h2 => fSetL o i d h2 fun h3 => R δ h3
def upSet (K : Fg) (f : D → D → D → OS → (OS → Prop) → Prop) : TSet := fun o i v H Q => ∃ I do_ di d h R, HR K I h H ∧ RD K H I do_ o ∧ RD K H I di i ∧ RD K H I d v ∧ f do_ di d h R ∧ ∀ h' I' H', R h' → Stp I H I' H' → HR K I' h' H' → Q H'
theorem o_setL : PSet X (upSet X.K fSetL) := by
  intro pins s σ H o i v ov iv u Q J ro ri rv ⟨I, do_, di, d, h, R, hr, rdo, rdi, rd, ⟨n, k, ds, j, e1, e2, e3, e4, hR⟩, g⟩
  subst e1 e2
  obtain ⟨a, rfl, q⟩ := rdo.refv
  cases rdi
  obtain ⟨xs, q2, r2⟩ := hr.ob n a _ q e3
  refine set_list pins s σ H _ _ v ov iv u Q J ro ri rv ⟨a, xs, k, j, rfl, rfl, q2, by rw [← r2.length]; exact e4, ?_⟩
  have m : a ∈ I := List.mem_of_getElem? q
  have s1 : Stp I H I (upd H a (.lst (xs.set j v))) := Stp.put m ⟨_, q2, trivial⟩
  exact g _ I _ hR s1 (hr.put q ⟨_, upd_same, (r2.set rd j).step s1⟩)
theorem g_subL {o i : Expr} {to ti : TDE} (ho : DE X o to) (hi : DE X i ti)
    (ha : ∀ v, assign (.Subscript o i pos) X.env v = (do
      let ov ← holding [v] (eval o X.env)
      let iv ← holding [v, ov] (eval i X.env)
      standAt pos
      holding [v, ov, iv] (setItem ov iv v)
      release [v, ov, iv] []) := by intro _; rfl) : DG X (.Subscript o i pos) (gSubL to ti) :=
  PG.imp (pg_sub ho hi o_setL ha) fun v σ H Q ⟨I, d, δ, h, R, sr, hr, rd, q, g⟩ =>
    ⟨I, δ, h, _, sr, hr, q, fun do_ h1 I1 H1 ov q1 s1 hr1 rdo => ⟨I1, δ, h1, _, sr.step s1, hr1, q1, fun di h2 I2 H2 iv q2 s2 hr2 rdi =>
      ⟨I2, do_, di, d, h2, _, hr2, rdo.step s2, rdi, rd.step (s1.trans s2), q2, fun h3 I3 H3 q3 s3 hr3 => g δ h3 I3 H3 σ q3 (s1.trans (s2.trans s3)) hr3 (sr.step (s1.trans (s2.trans s3)))⟩⟩⟩
def dAsg (te : TDE) (g : TDG) : TDS := fun E δ h => te δ h fun x h1 => g x δ h1 E.nx
theorem s_asg {tg e : Expr} {te : TDE} {g : TDG} (he : DE X e te) (hg : DG X tg g) (hs : swapsWithSole [tg] e pos.line X.env = pure false := by rfl) (hw : swappedStores [tg] e X.env = pure none := by rfl)
    (h1 : (assignEach [tg] X.env).map (·.2) = [assign tg X.env] := by rfl) : DSt X (.Assign [tg] e pos) (dAsg te g) :=
  PS.imp (ps_asg he hg hs hw h1) fun E σ H ⟨I, δ, h, ED, sr, hr, q, g⟩ =>
    ⟨I, δ, h, _, sr, hr, q, fun d h1 I1 H1 v q1 s1 hr1 rd => ⟨I1, d, δ, h1, ED.nx, sr.step s1, hr1, rd, q1, g.nx.after s1⟩⟩
theorem s_set {i : Nat} {x : Str} {e : Expr} {te : TDE} {pos' : Pos} (hN : X.N.Nodup) (hi : X.N[i]? = some x) (hx : Loc X.env.scope x) (he : DE X e te) (hs : swapsWith e (some (.Name x pos')) pos.line X.env = pure false := by rfl) (hf : X.fn x = true ∨ X.env.scope.names.lookup x = some .local := by first | exact .inl rfl | exact .inr rfl | assumption) :
    DSt X (.Assign [.Name x pos'] e pos) (dAsg te (gN i)) :=
  PS.imp (ps_set hN hi hx he hs hf) fun E σ H ⟨I, δ, h, ED, sr, hr, q, g⟩ =>
    ⟨I, δ, h, _, sr, hr, q, fun d h1 I1 H1 v q1 s1 hr1 rd => g.nx _ h1 I1 H1 _ q1 s1 hr1 ((sr.step s1).set i rd)⟩
/-- a, b = x, y with local names -/
def dPar (i j : Nat) (ta : TDA) : TDS := fun E δ h => ta δ h fun ds h1 => ∃ x y, ds = [x, y] ∧ E.nx ((δ.set i (some x)).set j (some y)) h1
theorem s_par {i j : Nat} {x y : Str} {a b : Expr} {ta : TDA} {px py pt : Pos} {kt k2 : Nat} {pt2 : Pos} (hc : X.calm = true) (hN : X.N.Nodup) (hi : X.N[i]? = some x) (hj : X.N[j]? = some y) (hij : i ≠ j)
    (hx : X.env.scope.names.lookup x = some .local) (hy : X.env.scope.names.lookup y = some .local) (ha : DA X [a, b] ta)
    (hw : swappedStores [.Tuple [.Name x px, .Name y py] kt pt] (.Tuple [a, b] k2 pt2) X.env = pure (some [x, y]))
    (hs : swapsWithSole [.Tuple [.Name x px, .Name y py] kt pt] (.Tuple [a, b] k2 pt2) pos.line X.env = pure false := by rfl) :
    DSt X (.Assign [.Tuple [.Name x px, .Name y py] kt pt] (.Tuple [a, b] k2 pt2) pos) (dPar i j ta) :=
  PS.imp (ps_par hc hN hi hj hij hx hy ha hw hs) fun E σ H ⟨I, δ, h, ED, sr, hr, q, g⟩ =>
    ⟨I, δ, h, _, sr, hr, q, fun ds h1 I1 H1 vs ⟨dx, dy, e, q1⟩ s1 hr1 rd => by
      subst e
      cases rd with
      | cons r1 rd =>
      cases rd with
      | cons r2 rd =>
      cases rd
      exact ⟨_, _, rfl, g.nx _ h1 I1 H1 _ q1 s1 hr1 (((sr.step s1).set i r1).set j r2)⟩⟩
/-- name += e, of ints -/
def dAugI (f : Int → Int → Int) (i : Nat) (te : TDE) : TDS := fun E δ h => ∃ a, δ[i]? = some (some (.int a)) ∧ te δ h fun y h1 => ∃ b, y = .int b ∧ E.nx (δ.set i (some (.int (f a b)))) h1
theorem aug_of {K : Fg} {f : Int → Int → Int} {i : Nat} {te : TDE} {E : Ends} {σ : St} {H : Hp} (q : upS K (dAugI f i te) E σ H) : tAug i (up K te) (ipI f) E σ H := by
  obtain ⟨I, δ, h, ED, sr, hr, ⟨a, e, q⟩, g⟩ := q
  obtain ⟨v, e2, r⟩ := sr.2 i _ e
  cases r
  refine ⟨_, e2, I, δ, h, _, sr, hr, q, fun d h1 I1 H1 w ⟨b, e3, q1⟩ s1 hr1 rd => ?_⟩
  subst e3
  cases rd
  exact ⟨a, b, rfl, rfl, g.nx _ h1 I1 H1 _ q1 s1 hr1 ((sr.step s1).set i (.int _))⟩
theorem s_addTo {i : Nat} {x : Str} {e : Expr} {te : TDE} {pos' : Pos} (hN : X.N.Nodup) (hi : X.N[i]? = some x) (hx : Loc X.env.scope x) (he : DE X e te) (hf : X.fn x = true ∨ X.env.scope.names.lookup x = some .local := by first | exact .inl rfl | exact .inr rfl | assumption) :
    DSt X (.AugAssign (.Name x pos') .Add e pos) (dAugI (fun i j => i + j) i te) := PS.imp (ps_aug hN hi hx he ip_add hf) fun _ _ _ => aug_of
theorem s_subTo {i : Nat} {x : Str} {e : Expr} {te : TDE} {pos' : Pos} (hN : X.N.Nodup) (hi : X.N[i]? = some x) (hx : Loc X.env.scope x) (he : DE X e te) (hf : X.fn x = true ∨ X.env.scope.names.lookup x = some .local := by first | exact .inl rfl | exact .inr rfl | assumption) :
    DSt X (.AugAssign (.Name x pos') .Sub e pos) (dAugI (fun i j => i - j) i te) := PS.imp (ps_aug hN hi hx he ip_sub hf) fun _ _ _ => aug_of
end

/-! ### loops -/
structure Src where
  items : List D
  G : OS → Prop
abbrev TDI := DS → OS → (Src → OS → Prop) → Prop
structure WalkD (K : Fg) (I : List Addr) (H : Hp) (J : It) (S : Src) : Prop where
  goes : ∀ i I2 H2 h2, Stp I H I2 H2 → HR K I2 h2 H2 → S.G h2 → i < S.items.length → J.go i H2
  stops : ∀ I2 H2 h2, Stp I H I2 H2 → HR K I2 h2 H2 → S.G h2 → J.stop S.items.length H2
  yields : ∀ i I2 H2 h2 d x H3, Stp I H I2 H2 → HR K I2 h2 H2 → S.G h2 → S.items[i]? = some d → J.yld i H2 x H3 → Stp I2 H2 I2 H3 ∧ HR K I2 h2 H3 ∧ RD K H3 I2 d x
def upI (K : Fg) (t : TDI) : TI := fun σ H R => ∃ I δ h RS, SR K H I δ σ ∧ HR K I h H ∧ t δ h RS ∧ ∀ S h' I' H' J, RS S h' → Stp I H I' H' → HR K I' h' H' → WalkD K I' H' J S → R J H'
abbrev DI (X : Cx) (tg e : Expr) (t : TDI) : Prop := PI X tg e (upI X.K t)
theorem PI.imp {X : Cx} {tg e : Expr} {t t' : TI} (h : PI X tg e t) (i : ∀ σ H R, t' σ H R → t σ H R) : PI X tg e t' := ⟨fun pins s σ H R I q => h.run pins s σ H R I (i σ H R q)⟩
/-- a list or a tuple -/
def iSeq (te : TDE) : TDI := fun δ h RS => te δ h fun x h1 => match x with
  | .ref n => ∃ ds, h1[n]? = some (.lst ds) ∧ RS ⟨ds, fun h => h[n]? = some (.lst ds)⟩ h1
  | x => ∃ ds, sqv h1 x = some (true, ds) ∧ RS ⟨ds, fun _ => True⟩ h1
def iTupD (te : TDE) : TDI := fun δ h RS => te δ h fun x h1 => ∃ ds, x = .tup ds ∧ RS ⟨ds, fun _ => True⟩ h1
def iRange1 (te : TDE) : TDI := fun δ h RS => te δ h fun x h1 => ∃ j, x = .int j ∧ -(2 ^ 62) ≤ j ∧ j < 2 ^ 62 ∧ RS ⟨(List.range j.toNat).map fun k => .int (k : Nat), fun _ => True⟩ h1
def iRange2 (ta tb : TDE) : TDI := fun δ h RS => ta δ h fun x h1 => tb δ h1 fun y h2 => ∃ i j, x = .int i ∧ y = .int j ∧ (-(2 ^ 62) ≤ i ∧ i < 2 ^ 62 ∧ -(2 ^ 62) ≤ j ∧ j < 2 ^ 62) ∧ RS ⟨(List.range (j - i).toNat).map fun k => .int (i + (k : Nat)), fun _ => True⟩ h2
section
variable {X : Cx} {tg l a b : Expr} {te ta tb : TDE} {p pos : Pos}
theorem walkD_of {K : Fg} {I : List Addr} {H : Hp} {J : It} {S : Src} {n : Nat} {G : Hp → Prop} {Y : Nat → Hp → V → Hp → Prop} (w : Walk J n G Y) (hn : n = S.items.length) (hG : ∀ I2 H2 h2, Stp I H I2 H2 → HR K I2 h2 H2 → S.G h2 → G H2)
    (hY : ∀ i I2 H2 h2 d x H3, Stp I H I2 H2 → HR K I2 h2 H2 → S.G h2 → S.items[i]? = some d → Y i H2 x H3 → Stp I2 H2 I2 H3 ∧ HR K I2 h2 H3 ∧ RD K H3 I2 d x) : WalkD K I H J S := by
  subst hn
  refine ⟨fun i I2 H2 h2 s r g l => w.goes i H2 l (hG I2 H2 h2 s r g), fun I2 H2 h2 s r g => w.stops H2 (hG I2 H2 h2 s r g), fun i I2 H2 h2 d x H3 s r g e y => ?_⟩
  exact hY i I2 H2 h2 d x H3 s r g e (w.yields i H2 x H3 (List.getElem?_eq_some_iff.mp e).1 (hG I2 H2 h2 s r g) y)
theorem i_seq (hl : DE X l te) : DI X tg l (iSeq te) := by
  refine PI.imp (pi_list hl) fun σ H R ⟨I, δ, h, RS, sr, hr, q, g⟩ => ?_
  refine ⟨I, δ, h, _, sr, hr, q, fun d h1 I1 H1 v hq s1 hr1 rd => ?_⟩
  split at hq
  · obtain ⟨ds, e, q1⟩ := hq
    obtain ⟨a, rfl, q2⟩ := rd.refv
    obtain ⟨xs, q3, r3⟩ := hr1.ob _ a _ q2 e
    refine ⟨a, rfl, ⟨xs, SqL.of q3⟩, g _ h1 I1 H1 _ q1 s1 hr1 ?_⟩
    refine ⟨fun i I2 H2 h2 s r z l => ?_, fun I2 H2 h2 s r z => ?_, fun i I2 H2 h2 d x H3 s r z e3 y => ?_⟩
    · obtain ⟨ys, q4, r4⟩ := r.ob _ a _ (s.at q2) z
      obtain ⟨w, e5, _⟩ := r4.get (List.getElem?_eq_getElem l)
      exact ⟨ys, w, SqL.of q4, e5⟩
    · obtain ⟨ys, q4, r4⟩ := r.ob _ a _ (s.at q2) z
      exact ⟨ys, SqL.of q4, by rw [← r4.length]; exact Nat.le_refl _⟩
    · obtain ⟨ys, q4, r4⟩ := r.ob _ a _ (s.at q2) z
      obtain ⟨rfl, y2⟩ := y
      obtain ⟨w, e5, r5⟩ := r4.get e3
      have e6 := y2 ys (SqL.of q4)
      rw [e5] at e6
      cases e6
      exact ⟨Stp.refl, r, r5⟩
  · obtain ⟨ds, e, q1⟩ := hq
    have hd : ∃ p xs, v = .ref p ∧ (∀ I2 H2, Stp I1 H1 I2 H2 → SqL X.K H2 p xs) ∧ RDs X.K H1 I1 ds xs := by
      cases d with
      | lst es =>
        cases e
        cases rd with
        | lst q n r => exact ⟨_, _, rfl, fun I2 H2 s => SqL.of (s.keep _ _ q n), r⟩
      | scr es =>
        cases e
        cases rd with
        | scr q r => exact ⟨_, _, rfl, fun I2 H2 s => (q.step s).sq, r⟩
      | tup es => cases e
      | ref n =>
        rename_i hh
        exact absurd rfl (hh n)
      | _ => cases e
    obtain ⟨p, xs, rfl, hs, rs⟩ := hd
    refine ⟨p, rfl, ⟨xs, hs I1 H1 Stp.refl⟩, g _ h1 I1 H1 _ q1 s1 hr1 ?_⟩
    refine walkD_of walk_list rs.length.symm (fun I2 H2 h2 s r z => hs I2 H2 s) fun i I2 H2 h2 d x H3 s r z e3 y => ?_
    obtain ⟨rfl, y2⟩ := y
    obtain ⟨w, e5, r5⟩ := rs.get e3
    rw [e5] at y2
    cases y2
    exact ⟨Stp.refl, r, r5.step s⟩
theorem i_tup (hl : DE X l te) : DI X tg l (iTupD te) := by
  refine PI.imp (pi_tup hl) fun σ H R ⟨I, δ, h, RS, sr, hr, q, g⟩ => ?_
  refine ⟨I, δ, h, _, sr, hr, q, fun d h1 I1 H1 v ⟨ds, e, q1⟩ s1 hr1 rd => ?_⟩
  subst e
  cases rd with
  | tup q2 rs =>
    refine ⟨_, rfl, ⟨_, q2.sq⟩, g _ h1 I1 H1 _ q1 s1 hr1 ?_⟩
    refine walkD_of walk_tup rs.length.symm (fun I2 H2 h2 s r z => (q2.step s).sq) fun i I2 H2 h2 d x H3 s r z e3 y => ?_
    obtain ⟨rfl, y2⟩ := y
    obtain ⟨w, e5, r5⟩ := rs.get e3
    rw [e5] at y2
    cases y2
    exact ⟨Stp.refl, r, r5.step s⟩
theorem range_at {n i : Nat} {f : Nat → D} {d : D} (e : ((List.range n).map f)[i]? = some d) : d = f i := by
  rw [List.getElem?_map] at e
  cases h : (List.range n)[i]? with
  | none =>
    rw [h] at e
    cases e
  | some k =>
    rw [h] at e
    have hk := List.getElem?_eq_some_iff.mp h
    obtain ⟨hl, hk⟩ := hk
    rw [List.getElem_range] at hk
    subst hk
    cases e
    rfl
theorem i_range1 (hg : Gl X "range") (hm : X.mg "range" = none) (ha : DE X a ta) (hs : starEach [a] X.env = (false, eval a X.env) :: starEach [] X.env := by rfl) (hs1 : starEach [a] X.env = [(false, eval a X.env)] := by rfl) : DI X tg (.Call (.Name "range" p) [a] [] pos) (iRange1 ta) := by
  refine PI.imp (pi_range1 hg hm (da_cons ha da_nil hs) hs1) fun σ H R ⟨I, δ, h, RS, sr, hr, q, g⟩ => ?_
  refine ⟨I, δ, h, fun ds h1 => match ds with
    | [x] => ∃ j, x = .int j ∧ -(2 ^ 62) ≤ j ∧ j < 2 ^ 62 ∧ RS ⟨(List.range j.toNat).map fun k => .int (k : Nat), fun _ => True⟩ h1
    | _ => False, sr, hr, q, fun ds h1 I1 H1 vs hq s1 hr1 rd => ?_⟩
  dsimp only at hq
  split at hq
  · obtain ⟨j, rfl, b1, b2, q1⟩ := hq
    cases rd with
    | cons r1 rd =>
    cases rd
    cases r1
    refine ⟨j, rfl, b1, b2, g _ h1 I1 H1 _ q1 s1 hr1 ?_⟩
    refine walkD_of walk_range (by simp) (fun _ _ _ _ _ _ => trivial) fun i I2 H2 h2 d x H3 s r z e3 y => ?_
    obtain ⟨rfl, rfl⟩ := y
    rw [range_at e3]
    refine ⟨Stp.refl, r, ?_⟩
    show RD X.K H3 I2 (D.int ↑i) (V.int (0 + ↑i))
    rw [Int.zero_add]
    exact .int _
  · exact hq.elim
theorem i_range2 (hg : Gl X "range") (hm : X.mg "range" = none) (ha : DE X a ta) (hb : DE X b tb) (hs : starEach [a, b] X.env = (false, eval a X.env) :: starEach [b] X.env := by rfl) (hs2 : starEach [b] X.env = (false, eval b X.env) :: starEach [] X.env := by rfl)
    (hs3 : starEach [a, b] X.env = [(false, eval a X.env), (false, eval b X.env)] := by rfl) (hs4 : starEach [b] X.env = [(false, eval b X.env)] := by rfl) : DI X tg (.Call (.Name "range" p) [a, b] [] pos) (iRange2 ta tb) := by
  refine PI.imp (pi_range2 hg hm (da_cons ha (da_cons hb da_nil hs2) hs) hs3 hs4) fun σ H R ⟨I, δ, h, RS, sr, hr, q, g⟩ => ?_
  refine ⟨I, δ, h, fun ds h1 => match ds with
    | [x, y] => ∃ i j, x = .int i ∧ y = .int j ∧ (-(2 ^ 62) ≤ i ∧ i < 2 ^ 62 ∧ -(2 ^ 62) ≤ j ∧ j < 2 ^ 62) ∧ RS ⟨(List.range (j - i).toNat).map fun k => .int (i + (k : Nat)), fun _ => True⟩ h1
    | _ => False, sr, hr, q, fun ds h1 I1 H1 vs hq s1 hr1 rd => ?_⟩
  dsimp only at hq
  split at hq
  · obtain ⟨lo, j, rfl, rfl, b1, q1⟩ := hq
    cases rd with
    | cons r1 rd =>
    cases rd with
    | cons r2 rd =>
    cases rd
    cases r1
    cases r2
    refine ⟨lo, j, rfl, b1, g _ h1 I1 H1 _ q1 s1 hr1 ?_⟩
    refine walkD_of walk_range (by simp) (fun _ _ _ _ _ _ => trivial) fun i I2 H2 h2 d x H3 s r z e3 y => ?_
    obtain ⟨rfl, rfl⟩ := y
    rw [range_at e3]
    exact ⟨Stp.refl, r, .int _⟩
  · exact hq.elim
/-- for: Pv by the turn, the slots and our objects; behind a turn what is new may be forgotten -/
def dFor (si : TDI) (g : TDG) (tb : TDS) : TDS := fun E δ h => si δ h fun S h1 => ∃ Pv : Nat → DS → OS → Prop, Pv 0 δ h1 ∧ (∀ i δ h, i ≤ S.items.length → Pv i δ h → S.G h) ∧
  (∀ (i : Nat) d δ h, S.items[i]? = some d → Pv i δ h → g d δ h fun δ2 h2 =>
    tb { E with nx := fun δ' h' => ∃ δ3 h3, Drp h1.length δ' h' δ3 h3 ∧ Pv (i + 1) δ3 h3, ct := fun δ' h' => ∃ δ3 h3, Drp h1.length δ' h' δ3 h3 ∧ Pv (i + 1) δ3 h3, bk := E.nx } δ2 h2) ∧
  ∀ δ h, Pv S.items.length δ h → E.nx δ h
theorem s_for {iter : Expr} {body : List Stmt} {si : TDI} {g : TDG} {tb : TDS} (hp : PassesOwn (model X.prog X.w) X.A X.env X.xe) (hc : X.calm = true) (hi : DI X tg iter si) (hg : DG X tg g) (hb : DSs X body tb)
    (hs : ∀ x, foldedSetIterable iter X.env x = pure x := by intro _; rfl) : DSt X (.For tg iter body [] pos) (dFor si g tb) := by
  refine PS.imp (ps_for hp hc hi hg hb hs) fun E σ H ⟨I, δ, h, ED, sr, hr, q, go⟩ => ?_
  refine ⟨I, δ, h, _, sr, hr, q, fun S h1 I1 H1 J ⟨Pv, p0, pG, ps, pd⟩ s1 hr1 w => ?_⟩
  have go1 := go.after s1
  refine ⟨fun i m σ2 H2 => m + i = S.items.length ∧ ∃ I2 δ2 h2, SR X.K H2 I2 δ2 σ2 ∧ HR X.K I2 h2 H2 ∧ Stp I1 H1 I2 H2 ∧ Pv i δ2 h2, ⟨S.items.length, Nat.add_zero _, I1, δ, h1, sr.step s1, hr1, Stp.refl, p0⟩, ?_⟩
  rintro i m σ2 H2 ⟨hm, I2, δ2, h2, sr2, hr2, s2, p2⟩
  have gd := pG i δ2 h2 (by omega) p2
  by_cases hi : i = S.items.length
  · left
    subst hi
    exact ⟨w.stops I2 H2 h2 s2 hr2 gd, go1.nx δ2 h2 I2 H2 σ2 (pd δ2 h2 p2) s2 hr2 sr2⟩
  · right
    have hl : i < S.items.length := by omega
    have e : S.items[i]? = some S.items[i] := List.getElem?_eq_getElem hl
    refine ⟨w.goes i I2 H2 h2 s2 hr2 gd hl, fun σ' H' => ∃ I3 δ3 h3, SR X.K H' I3 δ3 σ' ∧ HR X.K I3 h3 H' ∧ Stp I1 H1 I3 H' ∧ Pv (i + 1) δ3 h3, ?_, ?_⟩
    · rintro σ' H' ⟨I3, δ3, h3, a, b, c, d⟩
      exact ⟨m - 1, by omega, by omega, I3, δ3, h3, a, b, c, d⟩
    · intro x H3 y
      obtain ⟨s3, hr3, rd⟩ := w.yields i I2 H2 h2 _ x H3 s2 hr2 gd e y
      have s13 := s2.trans s3
      refine ⟨I2, S.items[i], δ2, h2, _, sr2.step s3, hr3, rd, ps i _ δ2 h2 e p2, fun δ4 h4 I4 H4 σ4 q4 s4 hr4 sr4 => ?_⟩
      have s14 := s13.trans s4
      have back : GoN X.K I4 H4 (fun δ' h' => ∃ δ3 h3, Drp h1.length δ' h' δ3 h3 ∧ Pv (i + 1) δ3 h3) (fun σ' H' => ∃ I3 δ3 h3, SR X.K H' I3 δ3 σ' ∧ HR X.K I3 h3 H' ∧ Stp I1 H1 I3 H' ∧ Pv (i + 1) δ3 h3) := by
        rintro δ5 h5 I5 H5 σ5 ⟨δ6, h6, dr, p6⟩ s5 hr5 sr5
        obtain ⟨I6, a, b, c⟩ := dr.use hr1.len sr5 hr5 (s14.trans s5)
        exact ⟨I6, δ6, h6, a, b, c, p6⟩
      exact ⟨I4, δ4, h4, _, sr4, hr4, q4, back, (go1.after s14).rt, (go1.after s14).nx, back⟩
/-- while: Pv with a number that falls -/
def dWhile (c : TDT) (tb : TDS) : TDS := fun E δ h => ∃ Pv : Nat → DS → OS → Prop, (∃ m, Pv m δ h) ∧ ∀ m δ2 h2, Pv m δ2 h2 → c δ2 h2 fun b h3 => if b = true then
    tb { E with nx := fun δ' h' => ∃ δ3 h3 m', Drp h.length δ' h' δ3 h3 ∧ m' < m ∧ Pv m' δ3 h3, ct := fun δ' h' => ∃ δ3 h3 m', Drp h.length δ' h' δ3 h3 ∧ m' < m ∧ Pv m' δ3 h3, bk := E.nx } δ2 h3 else E.nx δ2 h3
theorem s_while {c : Expr} {body : List Stmt} {tc : TDT} {tb : TDS} (hp : PassesOwn (model X.prog X.w) X.A X.env X.xe) (hc : DT X c tc) (hb : DSs X body tb) : DSt X (.While c body [] pos) (dWhile tc tb) := by
  refine PS.imp (ps_while hp hc hb) fun E σ H ⟨I, δ, h, ED, sr, hr, ⟨Pv, ⟨m0, p0⟩, ps⟩, go⟩ => ?_
  refine ⟨fun m σ2 H2 => ∃ I2 δ2 h2, SR X.K H2 I2 δ2 σ2 ∧ HR X.K I2 h2 H2 ∧ Stp I H I2 H2 ∧ Pv m δ2 h2, ⟨m0, I, δ, h, sr, hr, Stp.refl, p0⟩, ?_⟩
  rintro m σ2 H2 ⟨I2, δ2, h2, sr2, hr2, s2, p2⟩
  have q := ps m δ2 h2 p2
  refine ⟨I2, δ2, h2, _, sr2, hr2, q, fun b h3 I3 H3 q3 s3 hr3 => ?_⟩
  have s13 := s2.trans s3
  cases b with
  | false => exact (go.after s13).nx δ2 h3 I3 H3 σ2 q3 Stp.refl hr3 (sr2.step s3)
  | true =>
    refine ⟨fun σ' H' => ∃ m', m' < m ∧ ∃ I3 δ3 h3, SR X.K H' I3 δ3 σ' ∧ HR X.K I3 h3 H' ∧ Stp I H I3 H' ∧ Pv m' δ3 h3, fun σ' H' z => z, ?_⟩
    have back : GoN X.K I3 H3 (fun δ' h' => ∃ δ3 h3 m', Drp h.length δ' h' δ3 h3 ∧ m' < m ∧ Pv m' δ3 h3) (fun σ' H' => ∃ m', m' < m ∧ ∃ I3 δ3 h3, SR X.K H' I3 δ3 σ' ∧ HR X.K I3 h3 H' ∧ Stp I H I3 H' ∧ Pv m' δ3 h3) := by
      rintro δ5 h5 I5 H5 σ5 ⟨δ6, h6, m', dr, hm, p6⟩ s5 hr5 sr5
      obtain ⟨I6, a, b, c⟩ := dr.use hr.len sr5 hr5 (s13.trans s5)
      exact ⟨m', hm, I6, δ6, h6, a, b, c, p6⟩
    exact ⟨I3, δ2, h3, _, sr2.step s3, hr3, q3, back, (go.after s13).rt, (go.after s13).nx, back⟩
end
end FL
end
section
/-! Defs and their calls over data; nothing is being written out when they are called (guards). -/
namespace FL
open PySem PySem.Spec PyProof.Rows L2

structure FnG (P : Program) (w : World) (K : Fg) (mg : Str → Option Value) (base : Heap) (CX : CXT) (k : Nat) (f : Addr) (fd : FuncData) (ps : List Str) (sp : Sp) : Prop where
  len : ∀ vs H Q E, sp vs H Q E → vs.length = ps.length
  run : ∀ (A : Around) (outer : List Env) (s : Shared) (H : Hp) (args : Args) (us : List Value) (vs : List V) (Q : VK) (E : XK),
    Room k A → A.guards = some [] → Env0 P w K mg base A outer s H → BindsTo s fd args (ps.zip us) → Vals vs us → sp vs H Q E →
    codeAny (model P w) A (.call (.ref f) args) (CR CX outer P w H s Q E) s
theorem FnG.mono {P : Program} {w : World} {K : Fg} {mg : Str → Option Value} {base : Heap} {CX : CXT} {j k : Nat} {f : Addr} {fd : FuncData} {ps : List Str} {sp : Sp} (F : FnG P w K mg base CX j f fd ps sp) (h : j ≤ k) : FnG P w K mg base CX k f fd ps sp :=
  ⟨F.len, fun A outer s H args us vs Q E hr => F.run A outer s H args us vs Q E (hr.mono h)⟩
theorem FnG.imp {P : Program} {w : World} {K : Fg} {mg : Str → Option Value} {base : Heap} {CX : CXT} {k : Nat} {f : Addr} {fd : FuncData} {ps : List Str} {sp sp' : Sp} (F : FnG P w K mg base CX k f fd ps sp) (h : ∀ vs H Q E, sp' vs H Q E → sp vs H Q E) : FnG P w K mg base CX k f fd ps sp' :=
  ⟨fun vs H Q E q => F.len vs H Q E (h vs H Q E q), fun A outer s H args us vs Q E hr hg e b r q => F.run A outer s H args us vs Q E hr hg e b r (h vs H Q E q)⟩
/-- a def by its body -/
theorem fnG_of {CX : CXT} {P : Program} {w : World} {K : Fg} {mg : Str → Option Value} {base : Heap} {k : Nat} {f : Addr} {name qual : Str} {params : Arguments} {body : List Stmt} {scope : Scope} {dV kV doc pm cdv ct oc : Value} {an od : Option Addr}
    {osl : Array (Option Value)} {N ps : List Str} {sp : Sp} (lk : K.lookup f = some ⟨oc, od, .func (PySem.W.fnOf name qual params body scope dV kV doc pm an cdv ct), osl⟩) (hcd : PySem.W.codeIn K cdv qual = true)
    (S : FnScope N ps scope) (len : ∀ vs H Q E, sp vs H Q E → vs.length = ps.length)
    (hbody : ∀ (A : Around) (outer : List Env) (s : Shared) (H : Hp) (vs : List V) (Q : VK) (E : XK), Room k (A.deeper (envOfC qual scope s.heap.objs.size f cdv)) → A.guards = some [] → sp vs H Q E →
      ∃ t, PSs (cxOf CX P w K mg base N qual scope f cdv A outer s H E) body t ∧ t { nx := fun _ H' => Q .non H', rt := Q } (L2.start N vs) H) :
    FnG P w K mg base CX (k + 1) f (PySem.W.fnOf name qual params body scope dV kV doc pm an cdv ct) ps sp := by
  constructor
  · exact len
  · intro A outer s H args us vs Q E room gd e0 hb r hsp
    have inK : K.In s.heap := e0.mod.kin.keeps (fun b o e => (e0.bs b o e).1)
    have lim : s.heap.NoLimit := e0.mod.nolimit.keeps (fun b o e => (e0.bs b o e).1)
    have kinds : ∀ y ∈ ps.zip us, scope.names.lookup y.1 = some .local ∨
        (scope.names.lookup y.1 = some .cell ∧ ((cellsFrom (s.heap.objs.size + 1) scope.names []).lookup y.1).isSome = true) := by
      rintro ⟨n, v⟩ hy
      rcases S.par n (List.of_mem_zip hy).1 with q | q
      · exact Or.inl q
      · exact Or.inr ⟨q, PySem.W.cellsFrom_some _ _ _ (Or.inl q)⟩
    refine codeAny_call_function room.depth (inK _ _ lk) rfl S.co S.gen rfl (PySem.W.codeRec_of inK hcd) (hb _ _ _ _ ?_)
    refine wpAny_newFunctionEnv_cells S.kind kinds ?_
    intro env he s1 x
    subst he
    refine ⟨lim.keeps x.toInCall.keep, codeAny_func ?_⟩
    obtain ⟨t, ht, hq⟩ := hbody A outer s H vs Q E (room.deeper _) gd hsp
    have J : Inv (cxOf CX P w K mg base N qual scope f cdv A outer s H E) [] (L2.start N vs) H s1 := inv_start S room.hd e0 (len _ _ _ _ hsp) r x
    refine wpAny_mono (ht.run [] s1 (L2.start N vs) H _ J hq) ?_ (fun e s' hs => hs)
    intro fl s' hs
    cases fl with
    | ret u =>
      obtain ⟨v, σ', H', J', rv, q⟩ := hs
      exact ⟨v, H', J'.os, J'.bare, J'.base, J'.hok, rv, q⟩
    | next =>
      obtain ⟨σ', H', J', q⟩ := hs
      exact ⟨V.non, H', J'.os, J'.bare, J'.base, J'.hok, rfl, q⟩
    | brk =>
      obtain ⟨_, _, _, q⟩ := hs
      exact q.elim
    | cont =>
      obtain ⟨_, _, _, q⟩ := hs
      exact q.elim
/-- positional arguments, defaults behind -/
theorem kbn_of {K : Fg} {fd : FuncData} {ps : List Str} {ds : List Value} {dvs : List V} {n : Nat} (b : Binds K fd ps ds) (r : Vals dvs ds) (hn : n + dvs.length = ps.length) : KBn K fd ps n [] (fun us _ => us ++ ds) (fun vs _ => vs ++ dvs) :=
  ⟨fun s us ws X l1 _ => by
    have := b s us X (by rw [List.length_append, l1, ← r.length]; exact hn)
    simpa using this, fun r1 _ => r1.append r⟩
section
variable {X : Cx} {CX : CXT} {k n : Nat} {f C : Addr} {fd : FuncData} {ps ks : List Str} {sp : Sp} {E : XK} {g : List Value → List Value → List Value} {gV : List V → List V → List V}
  {pins : List (Addr × Obj)} {σ : L2.St} {H : Hp} {s : Shared} {Q : VK} {us ws : List Value} {vs zs : List V}
theorem run_g (F : FnG X.prog X.w X.K X.mg X.base CX k f fd ps sp) (hr : Room k X.A) (gd : X.A.guards = some []) (hb : KBn X.K fd ps n ks g gV) (hx : Passes CX X E)
    (J : Inv X pins σ H s) (r : Vals vs us) (rz : Vals zs ws) (l1 : vs.length = n) (l2 : zs.length = ks.length) (h : sp (gV vs zs) H Q E) :
    wpAny (model X.prog X.w) X.A (call (.ref f) us (ks.zip ws)) (EP X pins σ Q) X.xe s := by
  have b := hb.to s us ws J.kIn (r.length.symm.trans l1) (rz.length.symm.trans l2)
  have run := F.run X.A X.stack s H ⟨us, ks.zip ws⟩ (g us ws) (gV vs zs) Q E hr gd J.env0 b (hb.rel r rz) h
  refine wpAny_call (codeAny_mono run ?_)
  intro z s' hq
  cases z with
  | error e => exact hx pins σ H s e s' J hq
  | ok fl =>
    cases fl with
    | ret u => exact J.after hq
    | next => exact hq.elim
    | brk => exact hq.elim
    | cont => exact hq.elim
theorem guards_make {A : Around} {us : List Value} {kw : List (Str × Value)} (gd : A.guards = some []) : (A.under (.builtin "type.__call__" ⟨.ref C :: us, kw⟩)).guards = some [] := by
  have e : Code.guards (.builtin "type.__call__" ⟨.ref C :: us, kw⟩) = [] := by
    unfold Code.guards
    exact if_neg (show ¬ (guardIds.contains "type.__call__" = true) by decide)
  unfold Around.under
  simp only [e, gd]
  rfl
theorem make_g (M : Mk X.K C f) (F : FnG X.prog X.w X.K X.mg X.base CX k f fd ps sp) (hr : Room (k + 1) X.A) (gd : X.A.guards = some []) (hb : KBn X.K fd ps (n + 1) ks g gV) (hx : Passes CX X E)
    (J : Inv X pins σ H s) (r : Vals vs us) (rz : Vals zs ws) (l1 : vs.length = n) (l2 : zs.length = ks.length)
    (h : ∀ x dx, H x = none → H dx = none → dx ≠ x → sp (gV (.ref x :: vs) zs) (upd (upd H dx (.own x)) x (.ins C dx [])) (fun v H2 => v = .non ∧ Q (.ref x) H2) E) :
    wpAny (model X.prog X.w) X.A (call (.ref C) us (ks.zip ws)) (EP X pins σ Q) X.xe s := by
  have J2 := Inv.made (C := C) J
  have r1 : Vals (V.ref (s.heap.objs.size + 1) :: vs) (Value.ref (s.heap.objs.size + 1) :: us) := .cons rfl r
  have q := h (s.heap.objs.size + 1) s.heap.objs.size (J.hok.fresh (Nat.le_succ _)) (J.hok.fresh (Nat.le_refl _)) (Nat.ne_of_lt (Nat.lt_succ_self _))
  have b := hb.to _ (Value.ref (s.heap.objs.size + 1) :: us) ws J2.kIn (by rw [List.length_cons, ← r.length, l1]) (rz.length.symm.trans l2)
  have run := F.run _ X.stack _ _ ⟨Value.ref (s.heap.objs.size + 1) :: us, ks.zip ws⟩ (g (Value.ref (s.heap.objs.size + 1) :: us) ws) _ _ E
    (hr.make C us (ks.zip ws)) (guards_make gd) (J2.env0.make C us (ks.zip ws)) b (hb.rel r1 rz) q
  refine wpAny_call (make_map (f := f) J.kIn M.makes M.init (beq_iff_eq.mp M.fn) (codeAny_mono run ?_))
  intro z s' hq
  cases z with
  | error e => exact hx pins σ _ _ e s' J2 hq
  | ok fl =>
    cases fl with
    | ret u =>
      obtain ⟨v, H', J3, rv, ev, q3⟩ := J2.after hq
      subst ev
      exact ⟨rv, V.ref (s.heap.objs.size + 1), H', J3, rfl, q3⟩
    | next => exact hq.elim
    | brk => exact hq.elim
    | cont => exact hq.elim
end

/-! ### promises over data -/
abbrev DX := Value → Option (List (Str × D)) → OS → Prop
abbrev DSp := List D → OS → DK → DX → Prop
/-- an exception's own dict -/
def RX (K : Fg) (H : Hp) (I : List Addr) : Option (List (Str × D)) → Option Addr → Prop
  | none, d => d = none
  | some qs, d => ∃ a fs, d = some a ∧ H a = some (.xd fs) ∧ a ∉ I ∧ fs.map (·.1) = qs.map (·.1) ∧ RDs K H I (qs.map (·.2)) (fs.map (·.2))
def GoX (K : Fg) (I : List Addr) (H : Hp) (R : DX) (E : XK) : Prop := ∀ c o h' I' H' d, R c o h' → Stp I H I' H' → HR K I' h' H' → RX K H' I' o d → E c d H'
theorem GoX.after {K : Fg} {I I1 : List Addr} {H H1 : Hp} {R : DX} {E : XK} (g : GoX K I H R E) (s : Stp I H I1 H1) : GoX K I1 H1 R E := fun c o h' I' H' d r s2 => g c o h' I' H' d r (s.trans s2)
def upSp (K : Fg) (sp : DSp) : Sp := fun vs H Q E => ∃ I ds h R RE, HR K I h H ∧ RDs K H I ds vs ∧ sp ds h R RE ∧ Go K I H R Q ∧ GoX K I H RE E
abbrev NoX : DX := fun _ _ _ => False
theorem GoX.no {K : Fg} {I : List Addr} {H : Hp} {E : XK} : GoX K I H NoX E := fun _ _ _ _ _ _ r => r.elim
abbrev FnD (P : Program) (w : World) (K : Fg) (mg : Str → Option Value) (base : Heap) (CX : CXT) (k : Nat) (f : Addr) (fd : FuncData) (ps : List Str) (sp : DSp) : Prop := FnG P w K mg base CX k f fd ps (upSp K sp)

/-- the content of an object as a value that nobody changes any more -/
def val : O → D
  | .lst ds => .lst ds
  | .dct qs => .dct (qs.map (·.1)) (qs.map (·.2))
  | .fdc qs => .dct (qs.map (·.1)) (qs.map (·.2))
  | .ins C qs => .ins C (qs.map (·.1)) (qs.map (·.2))
/-- a def's end: objects that it made and that nobody holds are forgotten; the one that is handed back may become a value -/
def Ret (R : DK) (m : Nat) (d : D) (h : OS) : Prop := R d h ∨ ∃ h' g, h = h' ++ g ∧ m ≤ h'.length ∧ okOs h'.length h' ∧
  ((okR h'.length d ∧ R d h') ∨ ∃ n o, d = .ref n ∧ h'.length ≤ n ∧ h[n]? = some o ∧ okO h'.length o ∧ R (val o) h')
theorem frozen {K : Fg} {I : List Addr} {H : Hp} {h : OS} {m n : Nat} {o : O} {v : V} (hr : HR K I h H) (r : RD K H I (.ref n) v) (e : h[n]? = some o) (hm : m ≤ n) (ok : okO m o) : RD K H (I.take m) (val o) v := by
  obtain ⟨a, rfl, q⟩ := r.refv
  have nin : a ∉ I.take m := by
    intro z
    obtain ⟨j, hj, ej⟩ := List.getElem_of_mem z
    rw [List.length_take] at hj
    have hj1 : j < I.length := by omega
    have e1 : I[j]? = some a := by
      rw [List.getElem_take] at ej
      rw [List.getElem?_eq_getElem hj1, ej]
    have := (List.getElem?_inj hj1 hr.nd).mp (e1.trans q.symm)
    omega
  have ob := hr.ob n a o q e
  cases o with
  | lst ds =>
    obtain ⟨xs, q2, r2⟩ := ob
    exact .lst q2 nin (RDs.takeI ok r2)
  | dct qs =>
    obtain ⟨kvs, q2, hk, r2⟩ := ob
    exact .dct (Or.inl q2) nin hk (RDs.takeI ok r2)
  | fdc qs =>
    obtain ⟨kvs, q2, hk, r2⟩ := ob
    exact .dct (Or.inr q2) nin hk (RDs.takeI ok r2)
  | ins C qs =>
    obtain ⟨dx, fs, q2, hk, r2⟩ := ob
    exact .ins q2 nin hk (RDs.takeI ok r2)
theorem Go.ret {K : Fg} {I : List Addr} {H : Hp} {R : DK} {Q : VK} (g : Go K I H R Q) : Go K I H (Ret R I.length) Q := by
  rintro d h1 I1 H1 v (z | ⟨h', g', rfl, hm, ok, z⟩) s1 hr1 rd
  · exact g d h1 I1 H1 v z s1 hr1 rd
  have hr2 := hr1.drop ok
  have s2 : Stp I H (I1.take h'.length) H1 := s1.drop hm
  rcases z with ⟨okd, hR⟩ | ⟨n, o, rfl, hn, e, oko, hR⟩
  · exact g d h' _ H1 v hR s2 hr2 (rd.take okd)
  · exact g _ h' _ H1 v hR s2 hr2 (frozen hr1 rd e hn oko)
mutual
theorem RD.ok {K : Fg} {H : Hp} {I : List Addr} : ∀ {d : D} {v : V}, RD K H I d v → okR I.length d
  | _, _, .non => trivial
  | _, _, .bl b => trivial
  | _, _, .int i => trivial
  | _, _, .str x => trivial
  | _, _, .ty x => trivial
  | _, _, .obj a => trivial
  | _, _, .ref e => (List.getElem?_eq_some_iff.mp e).1
  | _, _, .scr e r => RDs.ok r
  | _, _, .tup e r => RDs.ok r
  | _, _, .lst e q r => RDs.ok r
  | _, _, .dct e q hk r => RDs.ok r
  | _, _, .ins e q hk r => RDs.ok r
theorem RDs.ok {K : Fg} {H : Hp} {I : List Addr} : ∀ {ds : List D} {vs : List V}, RDs K H I ds vs → okRs I.length ds
  | _, _, .nil => trivial
  | _, _, .cons a r => ⟨RD.ok a, RDs.ok r⟩
end
/-- our objects hold no number beyond them -/
theorem HR.ok {K : Fg} {H : Hp} {I : List Addr} {h : OS} (r : HR K I h H) : okOs h.length h := okOs_iff.mpr fun o ho => by
  obtain ⟨i, hi, e⟩ := List.getElem_of_mem ho
  have hl : i < I.length := by rw [r.len]; exact hi
  have := r.ob i I[i] o (List.getElem?_eq_getElem hl) (by rw [List.getElem?_eq_getElem hi, e])
  rw [← r.len]
  cases o with
  | lst ds =>
    obtain ⟨xs, _, q⟩ := this
    exact q.ok
  | dct qs =>
    obtain ⟨xs, _, _, q⟩ := this
    exact q.ok
  | fdc qs =>
    obtain ⟨xs, _, _, q⟩ := this
    exact q.ok
  | ins C qs =>
    obtain ⟨dx, xs, _, _, q⟩ := this
    exact q.ok
def startD (N : List Str) (ds : List D) : DS := ds.map some ++ List.replicate (N.length - ds.length) none
theorem sr_start {K : Fg} {H : Hp} {I : List Addr} {N : List Str} {ds : List D} {vs : List V} (r : RDs K H I ds vs) : SR K H I (startD N ds) (L2.start N vs) := by
  unfold startD L2.start
  refine ⟨by simp [r.length], fun i d e => ?_⟩
  by_cases hl : i < ds.length
  · rw [List.getElem?_append_left (by simpa using hl)] at e
    rw [List.getElem?_append_left (by simpa [← r.length] using hl)]
    rw [List.getElem?_map] at e ⊢
    cases h : ds[i]? with
    | none =>
      rw [h] at e
      cases e
    | some d' =>
      rw [h] at e
      cases e
      obtain ⟨v, e2, a⟩ := r.get h
      exact ⟨v, by rw [e2]; rfl, a⟩
  · rw [List.getElem?_append_right (by simpa using hl)] at e
    have := List.mem_of_getElem? e
    rw [List.mem_replicate] at this
    cases this.2
section
variable {P : Program} {w : World} {K : Fg} {mg : Str → Option Value} {base : Heap}
/-- a def as it stands, with or without defaults -/
structure FunA (K : Fg) (x qual : Str) (st : Stmt) (f : Addr) (fd : FuncData) : Prop where
  ex : ∃ (oc : Value) (od : Option Addr) (dV kV doc pm : Value) (an : Option Addr) (cdv ct : Value) (osl : Array (Option Value)),
    fd = PySem.W.fnOf x qual (defArgs st) (defBody st) (defScope st) dV kV doc pm an cdv ct ∧ K.lookup f = some ⟨oc, od, .func fd, osl⟩ ∧ PySem.W.codeIn K cdv qual = true
  kp : PySem.W.keepIn K (.ref f) = true
theorem funA {x qual : Str} {st : Stmt} {f : Addr} {fd : FuncData} (F : Fun K x qual st f fd) : FunA K x qual st f fd := by
  obtain ⟨oc, od, kV, doc, pm, an, cdv, ct, osl, a, b, c⟩ := F.ex
  exact ⟨⟨oc, od, .none, kV, doc, pm, an, cdv, ct, osl, a, b, c⟩, F.kp⟩
theorem funA_mk {x qual : Str} {st : Stmt} {f : Addr} {oc : Value} {od an : Option Addr} {osl : Array (Option Value)} {dV kV doc pm cdv ct : Value} (l : K.lookup f = some ⟨oc, od, .func (PySem.W.fnOf x qual (defArgs st) (defBody st) (defScope st) dV kV doc pm an cdv ct), osl⟩)
    (c : PySem.W.codeIn K cdv qual = true) (k : PySem.W.keepIn K (.ref f) = true) : FunA K x qual st f (PySem.W.fnOf x qual (defArgs st) (defBody st) (defScope st) dV kV doc pm an cdv ct) := ⟨⟨_, _, _, _, _, _, _, _, _, _, rfl, l, c⟩, k⟩
/-- THE RULE: a def that lets no exception out -/
theorem fnD {x qual : Str} {st : Stmt} {f : Addr} {fd : FuncData} {N ps : List Str} {k : Nat} {sp : DSp} (F : FunA K x qual st f fd) (S : FnScope N ps (defScope st)) (len : ∀ ds h R E, sp ds h R E → ds.length = ps.length)
    (hbody : ∀ (cdv : Value) (A : Around) (outer : List Env) (s : Shared) (H : Hp) (E : XK), Room k (A.deeper (envOfC qual (defScope st) s.heap.objs.size f cdv)) → A.guards = some [] →
      ∃ t, DSs (cxOf CX0 P w K mg base N qual (defScope st) f cdv A outer s H E).nox (defBody st) t ∧ ∀ ds h R RE, okOs h.length h → okRs h.length ds → sp ds h R RE → t { nx := fun _ h' => Ret R h.length .non h', rt := Ret R h.length } (startD N ds) h) :
    FnD P w K mg base CX0 (k + 1) f fd ps sp := by
  obtain ⟨oc, od, dV, kV, doc, pm, an, cdv, ct, osl, rfl, lk, hcd⟩ := F.ex
  refine fnG_of lk hcd S ?_ ?_
  · rintro vs H Q E ⟨I, ds, h, R, RE, hr, rd, q, g, gx⟩
    rw [← rd.length]
    exact len ds h R RE q
  · rintro A outer s H vs Q E room gd ⟨I, ds, h, R, RE, hr, rd, q, g, gx⟩
    obtain ⟨t, ht, hq⟩ := hbody cdv A outer s H E room gd
    refine ⟨_, ht.nox, I, startD N ds, h, _, sr_start rd, hr, hq ds h R RE hr.ok (by rw [← hr.len]; exact rd.ok) q, ?_⟩
    have gr : Go K I H (Ret R h.length) Q := by
      rw [← hr.len]
      exact g.ret
    exact ⟨fun δ' h' I' H' σ' r s1 hr1 sr1 => gr .non h' I' H' .non r s1 hr1 .non, gr, fun δ' h' I' H' σ' r => r.elim, fun δ' h' I' H' σ' r => r.elim⟩
end

/-! ### calls -/
structure KBd (gV : List V → List V → List V) (gD : List D → List D → List D) : Prop where
  rel : ∀ {K : Fg} {H : Hp} {I : List Addr} {ds es : List D} {vs zs : List V}, RDs K H I ds vs → RDs K H I es zs → RDs K H I (gD ds es) (gV vs zs)
theorem kbd_plain {dvs : List V} {dds : List D} (h : ∀ (K : Fg) (H : Hp) (I : List Addr), RDs K H I dds dvs) : KBd (fun vs _ => vs ++ dvs) (fun ds _ => ds ++ dds) := ⟨fun r _ => r.append (h _ _ _)⟩
theorem kbd_nil : KBd (fun vs _ => vs ++ []) (fun ds _ => ds) := ⟨fun r _ => by
  rw [List.append_nil]
  exact r⟩
def dCall (n m : Nat) (sp : DSp) (gD : List D → List D → List D) (RE : DX) (t tk : TDA) : TDE := fun δ h R => t δ h fun ds h1 => tk δ h1 fun es h2 => ds.length = n ∧ es.length = m ∧ sp (gD ds es) h2 R RE
def upK (K : Fg) (t : TDA) : TA := upA K t
abbrev DKw (X : Cx) (kws : List Keyword) (t : TDA) : Prop := PK X kws (upA X.K t)
theorem PK.imp {X : Cx} {es : List Keyword} {t t' : TA} (h : PK X es t) (i : ∀ σ H Q, t' σ H Q → t σ H Q) : PK X es t' := ⟨fun pos pins s σ H Q I q => h.run pos pins s σ H Q I (i σ H Q q)⟩
section
variable {X : Cx} {e : Expr} {kws : List Keyword} {te : TDE} {t tk : TDA} {nm : Option Str} {kpos : Pos}
theorem k_nil : DKw X [] dNil := PK.imp pk_nil fun σ H Q ⟨I, δ, h, R, sr, hr, r, g⟩ => g [] h I H [] r Stp.refl hr .nil
theorem k_cons (ha : DE X e te) (hr : DKw X kws t) : DKw X (⟨nm, e, kpos⟩ :: kws) (dCons te t) := by
  refine PK.imp (pk_cons ha hr) fun σ H Q ⟨I, δ, h, R, sr, hr, r, g⟩ => ?_
  refine ⟨I, δ, h, _, sr, hr, r, fun dx h1 I1 H1 x hR s1 hr1 rx => ?_⟩
  refine ⟨I1, δ, h1, _, sr.step s1, hr1, hR, fun ds h2 I2 H2 xs hf s2 hr2 rs => ?_⟩
  exact g _ h2 I2 H2 _ hf (s1.trans s2) hr2 (.cons (rx.step s2) rs)
end
section
variable {X : Cx} {CX : CXT} {k n : Nat} {f C : Addr} {fd : FuncData} {ps ks : List Str} {sp : DSp} {RE : DX} {E : XK} {x m : Str} {p pos apos : Pos} {e o : Expr} {es : List Expr} {kws : List Keyword} {t tk : TDA} {ta : TDE}
  {g : List Value → List Value → List Value} {gV : List V → List V → List V} {gD : List D → List D → List D}
/-- the reading of a call, as the callee's promise at the values -/
theorem call_sp {σ : L2.St} {H : Hp} {Q : VK} {m' : Nat} (hg : KBd gV gD) (q : up X.K (dCall n m' sp gD RE t tk) σ H Q) (hE : ∀ I H, GoX X.K I H RE E) :
    upA X.K t σ H fun vs H1 => upA X.K tk σ H1 fun zs H2 => vs.length = n ∧ zs.length = m' ∧ upSp X.K sp (gV vs zs) H2 Q E := by
  obtain ⟨I, δ, h, R, sr, hr, ht, go⟩ := q
  refine ⟨I, δ, h, _, sr, hr, ht, fun ds h1 I1 H1 vs hR s1 hr1 rs => ?_⟩
  refine ⟨I1, δ, h1, _, sr.step s1, hr1, hR, fun es h2 I2 H2 zs ⟨l1, l2, hs⟩ s2 hr2 rz => ?_⟩
  exact ⟨by rw [← rs.length]; exact l1, by rw [← rz.length]; exact l2, I2, gD ds es, h2, R, RE, hr2, hg.rel (rs.step s2) rz, hs, go.after (s1.trans s2), hE I2 H2⟩
/-- f(e, ..) -/
theorem d_call (F : FnD X.prog X.w X.K X.mg X.base CX k f fd ps sp) (hr : Room k X.A) (gd : X.A.guards = some []) (hgl : Gl X x) (hm : X.mg x = some (.ref f)) (hk : PySem.W.keepIn X.K (.ref f) = true) (hb : KBn X.K fd ps n [] g gV) (hg : KBd gV gD) (hx : Passes CX X E) (hE : ∀ I H, GoX X.K I H RE E)
    (ha : DA X (e :: es) t) (hdb : (x == ("__debug__" : Str)) = false := by decide) (he : starEach (e :: es) X.env = (false, eval e X.env) :: starEach es X.env := by rfl) (hpl : (backTo pos (starEach es X.env)).any (·.1) = false := by rfl) :
    DE X (.Call (.Name x p) (e :: es) [] pos) (dCall n 0 sp gD RE t dNil) := by
  refine ⟨fun pins s σ H Q J h => ?_⟩
  have q := call_sp hg h hE
  refine wpAny_Call_Name_kw (ld_glob J hgl hm ?_ hdb)
  refine PySem.W.callWith_K (h₀ := X.base) J.ok.mod.kin hk (thn (ha.run pos pins s σ H _ J q) ?_) he hpl
  rintro us s1 ⟨vs, H1, J1, r, q1⟩
  refine ⟨J1.kIn, ?_⟩
  obtain ⟨I, δ, h0, R, sr, hr0, ht, go⟩ := q1
  obtain ⟨l1, l2, hs⟩ := go [] h0 I H1 [] ht Stp.refl hr0 .nil
  exact run_g (ks := []) (ws := []) (zs := []) F hr gd hb hx J1 r .nil l1 rfl hs
/-- f(e, .., k = v, ..) -/
theorem d_callK (F : FnD X.prog X.w X.K X.mg X.base CX k f fd ps sp) (hr : Room k X.A) (gd : X.A.guards = some []) (hgl : Gl X x) (hm : X.mg x = some (.ref f)) (hk : PySem.W.keepIn X.K (.ref f) = true) (hb : KBn X.K fd ps n ks g gV) (hg : KBd gV gD) (hx : Passes CX X E) (hE : ∀ I H, GoX X.K I H RE E)
    (ha : DA X (e :: es) t) (hkw : DKw X kws tk) (hall : (backToKw pos (keywordEach kws X.env)).all (·.1.isSome) = true := by rfl) (hks : (backToKw pos (keywordEach kws X.env)).filterMap (·.1) = ks := by rfl)
    (hdb : (x == ("__debug__" : Str)) = false := by decide) (he : starEach (e :: es) X.env = (false, eval e X.env) :: starEach es X.env := by rfl)
    (hpl : ((backTo pos (starEach (e :: es) X.env)).any (·.1) || (backToKw pos (keywordEach kws X.env)).any (·.1.isNone)) = false := by rfl) :
    DE X (.Call (.Name x p) (e :: es) kws pos) (dCall n ks.length sp gD RE t tk) := by
  refine ⟨fun pins s σ H Q J h => ?_⟩
  have q := call_sp hg h hE
  refine wpAny_Call_Name_kw (ld_glob J hgl hm ?_ hdb)
  refine PySem.W.callWith_KW (h₀ := X.base) J.ok.mod.kin hk hall (thn (ha.run pos pins s σ H _ J q) ?_) hpl he
  rintro us s1 ⟨vs, H1, J1, r, q1⟩
  refine thn (hkw.run pos pins s1 σ H1 _ J1 q1) ?_
  rintro ws s2 ⟨zs, H2, J2, rz, l1, l2, hs⟩
  refine ⟨J2.kIn, ?_⟩
  rw [hks]
  exact run_g F hr gd hb hx J2 r rz l1 l2 hs
/-- o.m(e, ..), o.m() -/
def insv (h : OS) : D → Option (Addr × List (Str × D))
  | .ins C ns ds => some (C, ns.zip ds)
  | .ref n => match h[n]? with
    | some (.ins C fs) => some (C, fs)
    | _ => none
  | _ => none
theorem lookup_rd {K : Fg} {H : Hp} {I : List Addr} : ∀ {qs : List (Str × D)} {fs : List (Str × V)}, fs.map (·.1) = qs.map (·.1) → RDs K H I (qs.map (·.2)) (fs.map (·.2)) → ∀ (f : Str),
    (qs.lookup f = none → fs.lookup f = none) ∧ ∀ d, qs.lookup f = some d → ∃ v, fs.lookup f = some v ∧ RD K H I d v
  | [], [], _, _, f => ⟨fun _ => rfl, fun d e => by cases e⟩
  | [], _ :: _, e, _, _ => by cases e
  | _ :: _, [], e, _, _ => by cases e
  | (a, d) :: qs, (b, v) :: fs, e, r, f => by
    have e' : b :: fs.map (·.1) = a :: qs.map (·.1) := e
    injection e' with e1 e2
    subst e1
    cases r with
    | cons r1 r2 =>
      have ih := lookup_rd e2 r2 f
      rw [List.lookup_cons, List.lookup_cons]
      cases hq : f == b with
      | true =>
        constructor
        · intro z
          cases z
        · intro d' z
          cases z
          exact ⟨v, rfl, r1⟩
      | false => exact ih
theorem insv_ok {K : Fg} {H : Hp} {I : List Addr} {h : OS} {d : D} {v : V} {C : Addr} {fs : List (Str × D)} (hr : HR K I h H) (r : RD K H I d v) (e : insv h d = some (C, fs)) :
    ∃ a dx ws, v = .ref a ∧ H a = some (.ins C dx ws) ∧ (∀ f, fs.lookup f = none → ws.lookup f = none) ∧ ∀ f x, fs.lookup f = some x → ∃ y, ws.lookup f = some y ∧ RD K H I x y := by
  cases d with
  | ins C' ns ds =>
    cases r with
    | ins q n hk r =>
      rename_i p dx ws
      unfold insv at e
      injection e with e
      injection e with e1 e2
      subst e1 e2
      subst hk
      have hl : (ws.map (·.1)).length = ds.length := by rw [r.length, List.length_map, List.length_map]
      have l := fun f => lookup_rd (K := K) (H := H) (I := I) (qs := (ws.map (·.1)).zip ds) (fs := ws) (by rw [List.map_fst_zip (Nat.le_of_eq hl)]) (by rw [List.map_snd_zip (Nat.le_of_eq hl.symm)]; exact r) f
      exact ⟨p, dx, ws, rfl, q, fun f => (l f).1, fun f => (l f).2⟩
  | ref n =>
    obtain ⟨a, rfl, q⟩ := r.refv
    unfold insv at e
    simp only at e
    split at e
    · rename_i C' qs z
      injection e with e
      injection e with e1 e2
      subst e1 e2
      obtain ⟨dx, ws, q2, hk, r2⟩ := hr.ob n a _ q z
      have l := fun f => lookup_rd hk r2 f
      exact ⟨a, dx, ws, rfl, q2, fun f => (l f).1, fun f => (l f).2⟩
    · cases e
  | _ => cases e
def dMeth (C : Addr) (mn : Str) (n : Nat) (sp : DSp) (gD : List D → List D → List D) (RE : DX) (ta : TDE) (t : TDA) : TDE := fun δ h R => ta δ h fun x h1 => ∃ fs, insv h1 x = some (C, fs) ∧ fs.lookup mn = none ∧ t δ h1 fun ds h2 => ds.length = n ∧ sp (gD (x :: ds) []) h2 R RE
theorem d_meth {pl : Sem Bool} (ho : DE X o ta) (c : Cls X.K C) (hm : Meth X.K C m f) (F : FnD X.prog X.w X.K X.mg X.base CX k f fd ps sp) (hr : Room k X.A) (gd : X.A.guards = some []) (hb : KBn X.K fd ps (n + 1) [] g gV) (hg : KBd gV gD) (hx : Passes CX X E) (hE : ∀ I H, GoX X.K I H RE E) (ha : DA X (e :: es) t)
    (hst : starEach (e :: es) X.env = (false, eval e X.env) :: starEach es X.env := by rfl) (hpl : (backTo pos (starEach es X.env)).any (·.1) = false := by rfl)
    (ht : eval (.Call (.Attribute o m apos) (e :: es) [] pos) X.env = (do
      let ov ← eval o X.env
      standAt apos.atName
      let (f, first) ← holding [ov] (getMethod ov m pl)
      callWith pos f first (backTo pos (starEach (e :: es) X.env)) (backToKw pos (keywordEach [] X.env))) := by rfl) :
    DE X (.Call (.Attribute o m apos) (e :: es) [] pos) (dMeth C m n sp gD RE ta t) := by
  refine ⟨fun pins s σ H Q J ⟨I, δ, h, R, sr, hr0, hta, go⟩ => ?_⟩
  have q : up X.K ta σ H fun x H1 => ∃ a dx ws, x = .ref a ∧ H1 a = some (.ins C dx ws) ∧ ws.lookup m = none ∧ upA X.K t σ H1 fun vs H2 => vs.length = n ∧ upSp X.K sp (gV (x :: vs) []) H2 Q E := by
    refine ⟨I, δ, h, _, sr, hr0, hta, fun d h1 I1 H1 v ⟨fs, e1, e2, q1⟩ s1 hr1 rd => ?_⟩
    obtain ⟨a, dx, ws, rfl, q2, l1, _⟩ := insv_ok hr1 rd e1
    refine ⟨a, dx, ws, rfl, q2, l1 _ e2, I1, δ, h1, _, sr.step s1, hr1, q1, fun ds h2 I2 H2 vs ⟨l, hs⟩ s2 hr2 rs => ?_⟩
    exact ⟨by rw [← rs.length]; exact l, I2, gD (d :: ds) [], h2, R, RE, hr2, hg.rel (.cons (rd.step s2) rs) .nil, hs, go.after (s1.trans s2), hE I2 H2⟩
  refine PySem.W.methodCall_KW (pl := pl) (thn (ho.run pins s σ H _ J q) ?_) ht
  rintro u s1 ⟨x, H1, J1, rx, a, dx, ws, rfl, ea, l, q1⟩
  obtain rfl : u = Value.ref a := rx
  refine getmeth_ok J1 ea c hm l ?_
  refine PySem.W.callWith_K (first := [.ref a]) (h₀ := X.base) J.ok.mod.kin hm.kp (thn (ha.run pos pins s1 σ H1 _ J1 q1) ?_) hst hpl
  rintro us s2 ⟨vs, H2, J2, r, l1, q2⟩
  refine ⟨J2.kIn, ?_⟩
  exact run_g (us := .ref a :: us) (vs := .ref a :: vs) (ks := []) (ws := []) (zs := []) F hr gd hb hx J2 (.cons rfl r) .nil (by rw [List.length_cons, l1]) rfl q2
theorem d_meth0 {pl : Sem Bool} (ho : DE X o ta) (c : Cls X.K C) (hm : Meth X.K C m f) (F : FnD X.prog X.w X.K X.mg X.base CX k f fd ps sp) (hr : Room k X.A) (gd : X.A.guards = some []) (hb : KBn X.K fd ps 1 [] g gV) (hg : KBd gV gD) (hx : Passes CX X E) (hE : ∀ I H, GoX X.K I H RE E)
    (ht : eval (.Call (.Attribute o m apos) [] [] pos) X.env = (do
      let ov ← eval o X.env
      standAt apos.atName
      let (f, first) ← holding [ov] (getMethod ov m pl)
      callWith pos f first (backTo pos (starEach [] X.env)) (backToKw pos (keywordEach [] X.env))) := by rfl) :
    DE X (.Call (.Attribute o m apos) [] [] pos) (dMeth C m 0 sp gD RE ta dNil) := by
  refine ⟨fun pins s σ H Q J ⟨I, δ, h, R, sr, hr0, hta, go⟩ => ?_⟩
  have q : up X.K ta σ H fun x H1 => ∃ a dx ws, x = .ref a ∧ H1 a = some (.ins C dx ws) ∧ ws.lookup m = none ∧ upSp X.K sp (gV [x] []) H1 Q E := by
    refine ⟨I, δ, h, _, sr, hr0, hta, fun d h1 I1 H1 v ⟨fs, e1, e2, l, hs⟩ s1 hr1 rd => ?_⟩
    obtain ⟨a, dx, ws, rfl, q2, l1, _⟩ := insv_ok hr1 rd e1
    exact ⟨a, dx, ws, rfl, q2, l1 _ e2, I1, gD [d] [], h1, R, RE, hr1, hg.rel (.cons rd .nil) .nil, hs, go.after s1, hE I1 H1⟩
  refine PySem.W.methodCall_KW (pl := pl) (thn (ho.run pins s σ H _ J q) ?_) ht
  rintro u s1 ⟨x, H1, J1, rx, a, dx, ws, rfl, ea, l, q1⟩
  obtain rfl : u = Value.ref a := rx
  refine getmeth_ok J1 ea c hm l ?_
  refine PySem.W.callWith_K0 (first := [.ref a]) J1.kIn hm.kp ?_
  exact run_g (us := [.ref a]) (vs := [.ref a]) (ks := []) (ws := []) (zs := []) F hr gd hb hx J1 (.cons rfl .nil) .nil rfl rfl q1
/-- o.f -/
def dFld (C : Addr) (fn : Str) (ta : TDE) : TDE := fun δ h R => ta δ h fun x h1 => ∃ fs d, insv h1 x = some (C, fs) ∧ fs.lookup fn = some d ∧ R d h1
theorem d_fld (ho : DE X o ta) (c : Cls X.K C) (hn : NoAttr X.K C m) (hb : attributeBase o m X.env (eval o X.env) = eval o X.env := by rfl) : DE X (.Attribute o m pos) (dFld C m ta) := by
  refine PE.imp (pe_fld ho hb) fun σ H Q ⟨I, δ, h, R, sr, hr0, hta, go⟩ => ?_
  refine ⟨I, δ, h, _, sr, hr0, hta, fun d h1 I1 H1 v ⟨fs, d', e1, e2, q1⟩ s1 hr1 rd => ?_⟩
  obtain ⟨a, dx, ws, rfl, q2, _, l2⟩ := insv_ok hr1 rd e1
  obtain ⟨y, e3, r3⟩ := l2 _ _ e2
  exact ⟨a, C, dx, ws, y, rfl, q2, c, hn, e3, (go.after s1).now q1 hr1 r3⟩
/-- o.f = e -/
def putD (f : Str) (d : D) : List (Str × D) → List (Str × D)
  | [] => [(f, d)]
  | (g, x) :: r => if g = f then (g, d) :: r else (g, x) :: putD f d r
theorem putD_rd {K : Fg} {H : Hp} {I : List Addr} {f : Str} {d : D} {v : V} (a : RD K H I d v) : ∀ {qs : List (Str × D)} {fs : List (Str × V)}, fs.map (·.1) = qs.map (·.1) → RDs K H I (qs.map (·.2)) (fs.map (·.2)) →
    (putF f v fs).map (·.1) = (putD f d qs).map (·.1) ∧ RDs K H I ((putD f d qs).map (·.2)) ((putF f v fs).map (·.2))
  | [], [], _, _ => ⟨rfl, .cons a .nil⟩
  | [], _ :: _, e, _ => by cases e
  | _ :: _, [], e, _ => by cases e
  | (x, d') :: qs, (y, v') :: fs, e, r => by
    have e' : y :: fs.map (·.1) = x :: qs.map (·.1) := e
    injection e' with e1 e2
    subst e1
    cases r with
    | cons r1 r2 =>
      have ih := putD_rd (f := f) a e2 r2
      unfold putF putD
      by_cases z : y = f
      · rw [if_pos z, if_pos z]
        exact ⟨congrArg (List.cons y) e2, .cons a r2⟩
      · rw [if_neg z, if_neg z]
        exact ⟨congrArg (List.cons y) ih.1, .cons r1 ih.2⟩
def dSetF (C : Addr) (fn : Str) (ta tv : TDE) : TDS := fun E δ h => tv δ h fun d h1 => ta δ h1 fun x h2 => ∃ n fs, x = .ref n ∧ h2[n]? = some (.ins C fs) ∧ fs.length < 1000 ∧ E.nx δ (h2.set n (.ins C (putD fn d fs)))
theorem s_fld {value : Expr} {pos' : Pos} {tv : TDE} (ho : DE X o ta) (hv : DE X value tv) (c : Cls X.K C) (hn : NoAttr X.K C m) (hs : swapsWith value (some (.Attribute o m pos')) pos.line X.env = pure false := by rfl) :
    DSt X (.Assign [.Attribute o m pos'] value pos) (dSetF C m ta tv) := by
  refine PS.imp (ps_fld ho hv hs) fun E σ H ⟨I, δ, h, ED, sr, hr0, htv, go⟩ => ?_
  refine ⟨I, δ, h, _, sr, hr0, htv, fun d h1 I1 H1 v q1 s1 hr1 rd => ?_⟩
  refine ⟨I1, δ, h1, _, sr.step s1, hr1, q1, fun x h2 I2 H2 w ⟨n, fs, e1, e2, e3, q2⟩ s2 hr2 rx => ?_⟩
  subst e1
  obtain ⟨a, rfl, q⟩ := rx.refv
  obtain ⟨dx, ws, q3, hk, r3⟩ := hr2.ob n a _ q e2
  have hl : ws.length = fs.length := by
    have := congrArg List.length hk
    simpa using this
  refine ⟨a, C, dx, ws, rfl, q3, c, hn, by rw [hl]; exact e3, ?_⟩
  have m' : a ∈ I2 := List.mem_of_getElem? q
  have s3 : Stp I2 H2 I2 (upd H2 a (.ins C dx (putF m v ws))) := Stp.put m' ⟨_, q3, trivial⟩
  have pr := putD_rd (f := m) (rd.step s2) hk r3
  exact go.nx δ _ I2 _ σ q2 (s1.trans (s2.trans s3)) (hr2.put q ⟨dx, _, upd_same, pr.1, pr.2.step s3⟩) (sr.step (s1.trans (s2.trans s3)))
/-- o.f += e, o.f -= e, of ints -/
def dAugF (C : Addr) (op : Int → Int → Int) (fn : Str) (ta tv : TDE) : TDS := fun E δ h => ta δ h fun x h1 => ∃ n fs i, x = .ref n ∧ h1[n]? = some (.ins C fs) ∧ fs.lookup fn = some (.int i) ∧ tv δ h1 fun y h2 => ∃ j gs, y = .int j ∧ h2[n]? = some (.ins C gs) ∧ gs.length < 1000 ∧
  E.nx δ (h2.set n (.ins C (putD fn (.int (op i j)) gs)))
theorem aug_f {value : Expr} {tpos : Pos} {tv : TDE} {op : Operator} {opf : Int → Int → Int} (hop : InOp X op fun x y H Q => ∃ i j, x = .int i ∧ y = .int j ∧ Q (.int (opf i j)) H) (ho : DE X o ta) (hv : DE X value tv) (c : Cls X.K C) (hn : NoAttr X.K C m) :
    DSt X (.AugAssign (.Attribute o m tpos) op value pos) (dAugF C opf m ta tv) := by
  refine PS.imp (ps_fldaug ho hv hop) fun E σ H ⟨I, δ, h, ED, sr, hr0, hta, go⟩ => ?_
  refine ⟨I, δ, h, _, sr, hr0, hta, fun x h1 I1 H1 v ⟨n, fs, i, e1, e2, e3, q1⟩ s1 hr1 rx => ?_⟩
  subst e1
  obtain ⟨a, rfl, q⟩ := rx.refv
  obtain ⟨dx, ws, q3, hk, r3⟩ := hr1.ob n a _ q e2
  obtain ⟨y, e4, r4⟩ := (lookup_rd hk r3 m).2 _ e3
  cases r4
  refine ⟨a, C, dx, ws, _, rfl, q3, c, hn, e4, I1, δ, h1, _, sr.step s1, hr1, q1, fun y h2 I2 H2 w ⟨j, gs, e5, e6, e7, q2⟩ s2 hr2 ry => ?_⟩
  subst e5
  cases ry
  have q' : I2[n]? = some a := s2.at q
  obtain ⟨dx2, ws2, q4, hk2, r5⟩ := hr2.ob n a _ q' e6
  have hl : ws2.length = gs.length := by
    have := congrArg List.length hk2
    simpa using this
  refine ⟨i, j, rfl, rfl, dx2, ws2, q4, by rw [hl]; exact e7, ?_⟩
  have m' : a ∈ I2 := List.mem_of_getElem? q'
  have s3 : Stp I2 H2 I2 (upd H2 a (.ins C dx2 (putF m (.int (opf i j)) ws2))) := Stp.put m' ⟨_, q4, trivial⟩
  have pr := putD_rd (f := m) (K := X.K) (H := H2) (I := I2) (.int (opf i j)) hk2 r5
  exact go.nx δ _ I2 _ σ q2 (s1.trans (s2.trans s3)) (hr2.put q' ⟨dx2, _, upd_same, pr.1, pr.2.step s3⟩) (sr.step (s1.trans (s2.trans s3)))
theorem s_fldAdd {value : Expr} {tpos : Pos} {tv : TDE} (ho : DE X o ta) (hv : DE X value tv) (c : Cls X.K C) (hn : NoAttr X.K C m) : DSt X (.AugAssign (.Attribute o m tpos) .Add value pos) (dAugF C (fun i j => i + j) m ta tv) := aug_f in_add ho hv c hn
theorem s_fldSub {value : Expr} {tpos : Pos} {tv : TDE} (ho : DE X o ta) (hv : DE X value tv) (c : Cls X.K C) (hn : NoAttr X.K C m) : DSt X (.AugAssign (.Attribute o m tpos) .Sub value pos) (dAugF C (fun i j => i - j) m ta tv) := aug_f in_sub ho hv c hn
/-- C(..): an object of ours; or, made, a value that nobody changes -/
def dMake (C : Addr) (n m' : Nat) (sp : DSp) (gD : List D → List D → List D) (RE : DX) (t tk : TDA) : TDE := fun δ h R => t δ h fun ds h1 => tk δ h1 fun es h2 => ds.length = n ∧ es.length = m' ∧
  sp (gD (.ref h2.length :: ds) es) (h2 ++ [.ins C []]) (fun d h3 => d = .non ∧ R (.ref h2.length) h3) RE
def dMakeV (C : Addr) (n m' : Nat) (sp : DSp) (gD : List D → List D → List D) (RE : DX) (t tk : TDA) : TDE := fun δ h R => t δ h fun ds h1 => tk δ h1 fun es h2 => ds.length = n ∧ es.length = m' ∧
  sp (gD (.ref h2.length :: ds) es) (h2 ++ [.ins C []]) (fun d h3 => d = .non ∧ ∃ h4 o, h3 = h4 ++ [o] ∧ h4.length = h2.length ∧ okOs h4.length h4 ∧ okO h4.length o ∧ R (val o) h4) RE
theorem made {K : Fg} {I : List Addr} {h : OS} {H : Hp} {x dx : Addr} (hr : HR K I h H) (e1 : H x = none) (e2 : H dx = none) (hne : dx ≠ x) :
    Stp I H (I ++ [x]) (upd (upd H dx (.own x)) x (.ins C dx [])) ∧ HR K (I ++ [x]) (h ++ [.ins C []]) (upd (upd H dx (.own x)) x (.ins C dx [])) := by
  have e3 : upd H dx (.own x) x = none := by
    rw [upd_ne hne.symm]
    exact e1
  have s1 : Stp I H I (upd H dx (.own x)) := Stp.new e2
  exact ⟨s1.trans (Stp.push e3), (hr.new e2).push e3 ⟨dx, [], upd_same, rfl, .nil⟩⟩
theorem make_sp {σ : L2.St} {H : Hp} {Q : VK} {m' : Nat} (hg : KBd gV gD) (q : up X.K (dMake C n m' sp gD RE t tk) σ H Q) (hE : ∀ I H, GoX X.K I H RE E) :
    upA X.K t σ H fun vs H1 => upA X.K tk σ H1 fun zs H2 => vs.length = n ∧ zs.length = m' ∧ ∀ x dx, H2 x = none → H2 dx = none → dx ≠ x →
      upSp X.K sp (gV (.ref x :: vs) zs) (upd (upd H2 dx (.own x)) x (.ins C dx [])) (fun v H3 => v = .non ∧ Q (.ref x) H3) E := by
  obtain ⟨I, δ, h, R, sr, hr, ht, go⟩ := q
  refine ⟨I, δ, h, _, sr, hr, ht, fun ds h1 I1 H1 vs hR s1 hr1 rs => ?_⟩
  refine ⟨I1, δ, h1, _, sr.step s1, hr1, hR, fun es h2 I2 H2 zs ⟨l1, l2, hs⟩ s2 hr2 rz => ?_⟩
  refine ⟨by rw [← rs.length]; exact l1, by rw [← rz.length]; exact l2, fun x dx e1 e2 hne => ?_⟩
  obtain ⟨s3, hr3⟩ := made (C := C) hr2 e1 e2 hne
  have self : RD X.K (upd (upd H2 dx (.own x)) x (.ins C dx [])) (I2 ++ [x]) (.ref h2.length) (.ref x) := .ref (by rw [← hr2.len, List.getElem?_append_right (Nat.le_refl _), Nat.sub_self]; rfl)
  refine ⟨I2 ++ [x], _, _, _, RE, hr3, hg.rel (.cons self (rs.step (s2.trans s3))) (rz.step s3), hs, ?_, hE _ _⟩
  rintro d h4 I4 H4 v ⟨rfl, hR4⟩ s4 hr4 rd
  cases rd
  exact ⟨rfl, go _ h4 I4 H4 _ hR4 (s1.trans (s2.trans (s3.trans s4))) hr4 (self.step s4)⟩
theorem makeV_sp {σ : L2.St} {H : Hp} {Q : VK} {m' : Nat} (hg : KBd gV gD) (q : up X.K (dMakeV C n m' sp gD RE t tk) σ H Q) (hE : ∀ I H, GoX X.K I H RE E) :
    upA X.K t σ H fun vs H1 => upA X.K tk σ H1 fun zs H2 => vs.length = n ∧ zs.length = m' ∧ ∀ x dx, H2 x = none → H2 dx = none → dx ≠ x →
      upSp X.K sp (gV (.ref x :: vs) zs) (upd (upd H2 dx (.own x)) x (.ins C dx [])) (fun v H3 => v = .non ∧ Q (.ref x) H3) E := by
  obtain ⟨I, δ, h, R, sr, hr, ht, go⟩ := q
  refine ⟨I, δ, h, _, sr, hr, ht, fun ds h1 I1 H1 vs hR s1 hr1 rs => ?_⟩
  refine ⟨I1, δ, h1, _, sr.step s1, hr1, hR, fun es h2 I2 H2 zs ⟨l1, l2, hs⟩ s2 hr2 rz => ?_⟩
  refine ⟨by rw [← rs.length]; exact l1, by rw [← rz.length]; exact l2, fun x dx e1 e2 hne => ?_⟩
  obtain ⟨s3, hr3⟩ := made (C := C) hr2 e1 e2 hne
  have self : RD X.K (upd (upd H2 dx (.own x)) x (.ins C dx [])) (I2 ++ [x]) (.ref h2.length) (.ref x) := .ref (by rw [← hr2.len, List.getElem?_append_right (Nat.le_refl _), Nat.sub_self]; rfl)
  refine ⟨I2 ++ [x], _, _, _, RE, hr3, hg.rel (.cons self (rs.step (s2.trans s3))) (rz.step s3), hs, ?_, hE _ _⟩
  rintro d h4 I4 H4 v ⟨rfl, h5, o, rfl, hl, ok1, ok2, hR4⟩ s4 hr4 rd
  cases rd
  have s24 := s2.trans (s3.trans s4)
  refine ⟨rfl, go _ h5 (I4.take h5.length) H4 _ hR4 (s1.trans (s24.drop ?_)) (hr4.drop ok1) (frozen hr4 (self.step s4) ?_ (Nat.le_of_eq hl) ok2)⟩
  · rw [hl, ← hr2.len]
    obtain ⟨new, e, _⟩ := s2.pre
    rw [e, List.length_append]
    omega
  · rw [← hl, List.getElem?_append_right (Nat.le_refl _), Nat.sub_self]
    rfl
section
variable (M : Mk X.K C f) (F : FnD X.prog X.w X.K X.mg X.base CX k f fd ps sp) (hr : Room (k + 1) X.A) (gd : X.A.guards = some []) (hgl : Gl X x) (hm : X.mg x = some (.ref C)) (hg : KBd gV gD) (hx : Passes CX X E) (hE : ∀ I H, GoX X.K I H RE E)
include M F hr gd hgl hm hg hx hE
theorem make_run (hb : KBn X.K fd ps (n + 1) [] g gV) {tt : TDE} (hsp : ∀ σ H Q, up X.K tt σ H Q → upA X.K t σ H fun vs H1 => upA X.K dNil σ H1 fun zs H2 => vs.length = n ∧ zs.length = 0 ∧ ∀ x dx, H2 x = none → H2 dx = none → dx ≠ x →
      upSp X.K sp (gV (.ref x :: vs) zs) (upd (upd H2 dx (.own x)) x (.ins C dx [])) (fun v H3 => v = .non ∧ Q (.ref x) H3) E)
    (ha : DA X (e :: es) t) (hdb : (x == ("__debug__" : Str)) = false := by decide) (he : starEach (e :: es) X.env = (false, eval e X.env) :: starEach es X.env := by rfl) (hpl : (backTo pos (starEach es X.env)).any (·.1) = false := by rfl) :
    DE X (.Call (.Name x p) (e :: es) [] pos) tt := by
  refine ⟨fun pins s σ H Q J h => ?_⟩
  have q := hsp σ H Q h
  refine wpAny_Call_Name_kw (ld_glob J hgl hm ?_ hdb)
  refine PySem.W.callWith_K (h₀ := X.base) J.ok.mod.kin M.kp (thn (ha.run pos pins s σ H _ J q) ?_) he hpl
  rintro us s1 ⟨vs, H1, J1, r, q1⟩
  refine ⟨J1.kIn, ?_⟩
  obtain ⟨I, δ, h0, R, sr, hr0, ht, go⟩ := q1
  obtain ⟨l1, l2, hs⟩ := go [] h0 I H1 [] ht Stp.refl hr0 .nil
  exact make_g (ks := []) (ws := []) (zs := []) M F hr gd hb hx J1 r .nil l1 rfl hs
theorem d_make (hb : KBn X.K fd ps (n + 1) [] g gV) (ha : DA X (e :: es) t) (hdb : (x == ("__debug__" : Str)) = false := by decide) (he : starEach (e :: es) X.env = (false, eval e X.env) :: starEach es X.env := by rfl) (hpl : (backTo pos (starEach es X.env)).any (·.1) = false := by rfl) :
    DE X (.Call (.Name x p) (e :: es) [] pos) (dMake C n 0 sp gD RE t dNil) := make_run M F hr gd hgl hm hg hx hE hb (fun σ H Q q => make_sp hg q hE) ha hdb he hpl
theorem d_makeV (hb : KBn X.K fd ps (n + 1) [] g gV) (ha : DA X (e :: es) t) (hdb : (x == ("__debug__" : Str)) = false := by decide) (he : starEach (e :: es) X.env = (false, eval e X.env) :: starEach es X.env := by rfl) (hpl : (backTo pos (starEach es X.env)).any (·.1) = false := by rfl) :
    DE X (.Call (.Name x p) (e :: es) [] pos) (dMakeV C n 0 sp gD RE t dNil) := make_run M F hr gd hgl hm hg hx hE hb (fun σ H Q q => makeV_sp hg q hE) ha hdb he hpl
theorem make_runK (hb : KBn X.K fd ps (n + 1) ks g gV) {tt : TDE} (hsp : ∀ σ H Q, up X.K tt σ H Q → upA X.K t σ H fun vs H1 => upA X.K tk σ H1 fun zs H2 => vs.length = n ∧ zs.length = ks.length ∧ ∀ x dx, H2 x = none → H2 dx = none → dx ≠ x →
      upSp X.K sp (gV (.ref x :: vs) zs) (upd (upd H2 dx (.own x)) x (.ins C dx [])) (fun v H3 => v = .non ∧ Q (.ref x) H3) E)
    (ha : DA X (e :: es) t) (hkw : DKw X kws tk) (hall : (backToKw pos (keywordEach kws X.env)).all (·.1.isSome) = true := by rfl) (hks : (backToKw pos (keywordEach kws X.env)).filterMap (·.1) = ks := by rfl)
    (hdb : (x == ("__debug__" : Str)) = false := by decide) (he : starEach (e :: es) X.env = (false, eval e X.env) :: starEach es X.env := by rfl)
    (hpl : ((backTo pos (starEach (e :: es) X.env)).any (·.1) || (backToKw pos (keywordEach kws X.env)).any (·.1.isNone)) = false := by rfl) :
    DE X (.Call (.Name x p) (e :: es) kws pos) tt := by
  refine ⟨fun pins s σ H Q J h => ?_⟩
  have q := hsp σ H Q h
  refine wpAny_Call_Name_kw (ld_glob J hgl hm ?_ hdb)
  refine PySem.W.callWith_KW (h₀ := X.base) J.ok.mod.kin M.kp hall (thn (ha.run pos pins s σ H _ J q) ?_) hpl he
  rintro us s1 ⟨vs, H1, J1, r, q1⟩
  refine thn (hkw.run pos pins s1 σ H1 _ J1 q1) ?_
  rintro ws s2 ⟨zs, H2, J2, rz, l1, l2, hs⟩
  refine ⟨J2.kIn, ?_⟩
  rw [hks]
  exact make_g M F hr gd hb hx J2 r rz l1 l2 hs
theorem d_makeK (hb : KBn X.K fd ps (n + 1) ks g gV) (ha : DA X (e :: es) t) (hkw : DKw X kws tk) (hall : (backToKw pos (keywordEach kws X.env)).all (·.1.isSome) = true := by rfl) (hks : (backToKw pos (keywordEach kws X.env)).filterMap (·.1) = ks := by rfl)
    (hdb : (x == ("__debug__" : Str)) = false := by decide) (he : starEach (e :: es) X.env = (false, eval e X.env) :: starEach es X.env := by rfl)
    (hpl : ((backTo pos (starEach (e :: es) X.env)).any (·.1) || (backToKw pos (keywordEach kws X.env)).any (·.1.isNone)) = false := by rfl) :
    DE X (.Call (.Name x p) (e :: es) kws pos) (dMake C n ks.length sp gD RE t tk) := make_runK M F hr gd hgl hm hg hx hE hb (fun σ H Q q => make_sp hg q hE) ha hkw hall hks hdb he hpl
theorem d_makeKV (hb : KBn X.K fd ps (n + 1) ks g gV) (ha : DA X (e :: es) t) (hkw : DKw X kws tk) (hall : (backToKw pos (keywordEach kws X.env)).all (·.1.isSome) = true := by rfl) (hks : (backToKw pos (keywordEach kws X.env)).filterMap (·.1) = ks := by rfl)
    (hdb : (x == ("__debug__" : Str)) = false := by decide) (he : starEach (e :: es) X.env = (false, eval e X.env) :: starEach es X.env := by rfl)
    (hpl : ((backTo pos (starEach (e :: es) X.env)).any (·.1) || (backToKw pos (keywordEach kws X.env)).any (·.1.isNone)) = false := by rfl) :
    DE X (.Call (.Name x p) (e :: es) kws pos) (dMakeV C n ks.length sp gD RE t tk) := make_runK M F hr gd hgl hm hg hx hE hb (fun σ H Q q => makeV_sp hg q hE) ha hkw hall hks hdb he hpl
end
end

/-! ### calls of what Python brings -/
def dCB (f : FA) (t : TDA) : TDE := fun δ h R => t δ h fun ds h1 => f ds h1 R
theorem up_cb {K : Fg} {f : FA} {t : TDA} {σ : L2.St} {H : Hp} {Q : VK} (q : up K (dCB f t) σ H Q) : tCB (upL K f) (upA K t) σ H Q := by
  obtain ⟨I, δ, h, R, sr, hr, ht, go⟩ := q
  exact ⟨I, δ, h, _, sr, hr, ht, fun ds h1 I1 H1 vs hR s1 hr1 rs => ⟨I1, ds, h1, R, hr1, rs, hR, go.after s1⟩⟩
abbrev DC (X : Cx) (f : Value) (r : FA) : Prop := CallR X f (upL X.K r)
section
variable {X : Cx} {x : Str} {p pos : Pos} {e : Expr} {es : List Expr} {t : TDA} {id T : String} {f : FA}
theorem d_callB (hc : DC X (.builtin id) f) (hg : Gl X x) (hm : X.mg x = none) (hv : bootBuiltins x = some (.builtin id)) (ha : DA X (e :: es) t) (hn : x ≠ "__name__" := by decide) (hdb : (x == ("__debug__" : Str)) = false := by decide)
    (he : starEach (e :: es) X.env = (false, eval e X.env) :: starEach es X.env := by rfl) (hpl : (backTo pos (starEach es X.env)).any (·.1) = false := by rfl) : DE X (.Call (.Name x p) (e :: es) [] pos) (dCB f t) :=
  PE.imp (pe_callB hc hg hm hv ha hn hdb he hpl) fun _ _ _ => up_cb
theorem d_callTy (hc : DC X (.type T) f) (hg : Gl X x) (hm : X.mg x = none) (hv : bootBuiltins x = some (.type T)) (ha : DA X (e :: es) t) (hn : x ≠ "__name__" := by decide) (hdb : (x == ("__debug__" : Str)) = false := by decide)
    (he : starEach (e :: es) X.env = (false, eval e X.env) :: starEach es X.env := by rfl) (hpl : (backTo pos (starEach es X.env)).any (·.1) = false := by rfl) : DE X (.Call (.Name x p) (e :: es) [] pos) (dCB f t) :=
  PE.imp (pe_callTy hc hg hm hv ha hn hdb he hpl) fun _ _ _ => up_cb
end
/-- methods of what Python brings -/
abbrev FM := D → List D → OS → DK → Prop
def upM (K : Fg) (f : FM) : V → List V → Hp → VK → Prop := fun x xs H Q => ∃ I dx ds h R, HR K I h H ∧ RD K H I dx x ∧ RDs K H I ds xs ∧ f dx ds h R ∧ Go K I H R Q
/-- the receiver is of that type -/
def tyD (T : String) (h : OS) : D → Prop
  | .str _ => T = "str"
  | .lst _ => T = "list"
  | .ref n => (T = "list" ∧ ∃ ds, h[n]? = some (.lst ds)) ∨ (T = "dict" ∧ ∃ qs, h[n]? = some (.dct qs))
  | _ => False
theorem tyD_ok {K : Fg} {H : Hp} {I : List Addr} {h : OS} {T : String} {d : D} {v : V} (hr : HR K I h H) (r : RD K H I d v) (q : tyD T h d) : tyV K T v H := by
  cases r with
  | str x => exact q
  | lst e n r => exact Or.inl ⟨q, _, SqL.of e⟩
  | ref e =>
    rcases q with ⟨q, ds, z⟩ | ⟨q, qs, z⟩
    · obtain ⟨xs, q2, _⟩ := hr.ob _ _ _ e z
      exact Or.inl ⟨q, xs, SqL.of q2⟩
    · obtain ⟨kvs, q2, _⟩ := hr.ob _ _ _ e z
      exact Or.inr (Or.inr (Or.inl ⟨q, Or.inl ⟨_, q2⟩⟩))
  | _ => exact q.elim
def dBM (T : String) (f : FM) (to : TDE) (t : TDA) : TDE := fun δ h R => to δ h fun x h1 => tyD T h1 x ∧ t δ h1 fun ds h2 => f x ds h2 R
section
variable {X : Cx} {o e : Expr} {es : List Expr} {to : TDE} {t : TDA} {name : Str} {apos cpos : Pos} {T id : String} {f : FM}
theorem d_bm0 (pa : PlainAttrs T) (slot : Slot T name id) (hty : typeOf (.builtin id) = pure (.type "method_descriptor")) (hm : MtR X id (upM X.K f)) (ho : DE X o to)
    (hbase : attributeBase o name X.env (eval o X.env) = eval o X.env := by rfl) (hline : (apos.endLine == cpos.line) = true := by rfl) : DE X (.Call (.Attribute o name apos) [] [] cpos) (dBM T f to dNil) := by
  refine PE.imp (pe_bm0 pa slot hty hm ho hbase hline) fun σ H Q ⟨I, δ, h, R, sr, hr, ht, go⟩ => ?_
  exact ⟨I, δ, h, _, sr, hr, ht, fun d h1 I1 H1 v ⟨ty, q⟩ s1 hr1 rd => ⟨tyD_ok hr1 rd ty, I1, d, [], h1, R, hr1, rd, .nil, q, go.after s1⟩⟩
theorem d_bm (pa : PlainAttrs T) (slot : Slot T name id) (hty : typeOf (.builtin id) = pure (.type "method_descriptor")) (hm : MtR X id (upM X.K f)) (ho : DE X o to) (ha : DA X (e :: es) t)
    (hbase : attributeBase o name X.env (eval o X.env) = eval o X.env := by rfl)
    (hfew : ((backTo cpos (starEach (e :: es) X.env)).all (fun x => !x.1) && (backToKw cpos (keywordEach [] X.env)).all (fun x => x.1.isSome)
      && decide ((e :: es).length + ([] : List Keyword).length + (if ([] : List Keyword).isEmpty then 0 else 1) < 30)) = true := by rfl)
    (hline : (apos.endLine == cpos.line) = true := by rfl) (hs : starEach (e :: es) X.env = (false, eval e X.env) :: starEach es X.env := by rfl) (hplain : (backTo cpos (starEach es X.env)).any (·.1) = false := by rfl) :
    DE X (.Call (.Attribute o name apos) (e :: es) [] cpos) (dBM T f to t) := by
  refine PE.imp (pe_bm pa slot hty hm ho ha hbase hfew hline hs hplain) fun σ H Q ⟨I, δ, h, R, sr, hr, ht, go⟩ => ?_
  refine ⟨I, δ, h, _, sr, hr, ht, fun d h1 I1 H1 v ⟨ty, q⟩ s1 hr1 rd => ⟨tyD_ok hr1 rd ty, I1, δ, h1, _, sr.step s1, hr1, q, fun ds h2 I2 H2 vs hR s2 hr2 rs => ?_⟩⟩
  exact ⟨I2, d, ds, h2, R, hr2, rd.step s2, rs, hR, go.after (s1.trans s2)⟩
end
end FL
end
section
/-! What Python brings: functions, methods; comprehensions; a law's end. -/
namespace FL
open PySem PySem.Spec PyProof.Rows L2

/-! ### functions -/
def fLen : FA := fun ds h R => ∃ x, ds = [x] ∧ match x with
  | .str z => z.length ≤ sizeLine ∧ R (.int z.length) h
  | x => ∃ k es, sqv h x = some (k, es) ∧ R (.int es.length) h
def fMin2 : FA := fun ds h R => ∃ i j, ds = [.int i, .int j] ∧ R (.int (if j < i then j else i)) h
def fMax2 : FA := fun ds h R => ∃ i j, ds = [.int i, .int j] ∧ R (.int (if j > i then j else i)) h
def fInt : FA := fun ds h R => ∃ x, ds = [x] ∧ match x with
  | .int i => R (.int i) h
  | .bl b => R (.int (if b then 1 else 0)) h
  | _ => False
def fBool : FA := fun ds h R => ∃ x, ds = [x] ∧ match x with
  | .int i => R (.bl (i != 0)) h
  | .bl b => R (.bl b) h
  | _ => False
def fStr : FA := fun ds h R => ∃ x, ds = [x] ∧ match x with
  | .int i => i.natAbs.log2 < 1920 ∧ R (.str (toString i)) h
  | _ => False
def fTuple : FA := fun ds h R => ∃ x k es, ds = [x] ∧ sqv h x = some (k, es) ∧ R (.tup es) h
def fList : FA := fun ds h R => ∃ x k es, ds = [x] ∧ sqv h x = some (k, es) ∧ R (.lst es) h
def fListN : FA := fun ds h R => ∃ x k es, ds = [x] ∧ sqv h x = some (k, es) ∧ R (.ref h.length) (h ++ [.lst es])
def fSum : FA := fun ds h R => ∃ (x : D) (ns : List Int), ds = [x] ∧ sqv h x = some (true, ns.map D.int) ∧ R (.int ns.sum) h
def fAll : FA := fun ds h R => ∃ (x : D) (bs : List Bool), ds = [x] ∧ sqv h x = some (true, bs.map D.bl) ∧ R (.bl (bs.all id)) h
def fAny : FA := fun ds h R => ∃ (x : D) (bs : List Bool), ds = [x] ∧ sqv h x = some (true, bs.map D.bl) ∧ R (.bl (bs.any id)) h
section
variable {X : Cx} {K : Fg} {H : Hp} {I : List Addr}
theorem RDs.one {d : D} {vs : List V} (r : RDs K H I [d] vs) : ∃ v, vs = [v] ∧ RD K H I d v := by
  cases r with
  | cons a r =>
    cases r
    exact ⟨_, rfl, a⟩
theorem RDs.two {d e : D} {vs : List V} (r : RDs K H I [d, e] vs) : ∃ v w, vs = [v, w] ∧ RD K H I d v ∧ RD K H I e w := by
  cases r with
  | cons a r =>
    obtain ⟨w, rfl, b⟩ := r.one
    exact ⟨_, w, rfl, a, b⟩
theorem RDs.ints : ∀ {ns : List Int} {vs : List V}, RDs K H I (ns.map D.int) vs → vs = ns.map V.int
  | [], _, r => by
    cases r
    rfl
  | n :: ns, _, r => by
    cases r with
    | cons a r =>
      cases a
      rw [RDs.ints r]
      rfl
theorem RDs.bls : ∀ {ns : List Bool} {vs : List V}, RDs K H I (ns.map D.bl) vs → vs = ns.map V.bl
  | [], _, r => by
    cases r
    rfl
  | n :: ns, _, r => by
    cases r with
    | cons a r =>
      cases a
      rw [RDs.bls r]
      rfl
theorem RDs.strs : ∀ {ns : List Str} {vs : List V}, RDs K H I (ns.map D.str) vs → vs = ns.map V.str
  | [], _, r => by
    cases r
    rfl
  | n :: ns, _, r => by
    cases r with
    | cons a r =>
      cases a
      rw [RDs.strs r]
      rfl
theorem rds_ints : ∀ (ns : List Int), RDs K H I (ns.map D.int) (ns.map V.int)
  | [] => .nil
  | n :: ns => .cons (.int n) (rds_ints ns)
theorem rds_strs : ∀ (ns : List Str), RDs K H I (ns.map D.str) (ns.map V.str)
  | [] => .nil
  | n :: ns => .cons (.str n) (rds_strs ns)
theorem o_len : DC X (.builtin "len") fLen := by
  intro pins s σ H xs us Q J r ⟨I, ds, h, R, hr, rd, ⟨x, e, hf⟩, go⟩
  subst e
  obtain ⟨v, rfl, rx⟩ := rd.one
  split at hf
  · cases rx
    exact call_len_str pins s σ H _ us Q J r ⟨_, rfl, hf.1, go.now hf.2 hr (.int _)⟩
  · obtain ⟨k, es, e1, hR⟩ := hf
    obtain ⟨p, ws, rfl, hs, rs⟩ := sqv_ok hr rx e1
    refine call_len_seq pins s σ H _ us Q J r ⟨p, ws, rfl, hs.imp (·.2) (·.2), ?_⟩
    rw [← rs.length]
    exact go.now hR hr (.int _)
theorem o_min2 (hc : X.calm = true) : DC X (.builtin "min") fMin2 := by
  intro pins s σ H xs us Q J r ⟨I, ds, h, R, hr, rd, ⟨i, j, e, hR⟩, go⟩
  subst e
  obtain ⟨v, w, rfl, r1, r2⟩ := rd.two
  cases r1
  cases r2
  exact call_min2 hc pins s σ H _ us Q J r ⟨i, j, rfl, go.now hR hr (.int _)⟩
theorem o_max2 (hc : X.calm = true) : DC X (.builtin "max") fMax2 := by
  intro pins s σ H xs us Q J r ⟨I, ds, h, R, hr, rd, ⟨i, j, e, hR⟩, go⟩
  subst e
  obtain ⟨v, w, rfl, r1, r2⟩ := rd.two
  cases r1
  cases r2
  exact call_max2 hc pins s σ H _ us Q J r ⟨i, j, rfl, go.now hR hr (.int _)⟩
theorem o_int : DC X (.type "int") fInt := by
  intro pins s σ H xs us Q J r ⟨I, ds, h, R, hr, rd, ⟨x, e, hf⟩, go⟩
  subst e
  obtain ⟨v, rfl, rx⟩ := rd.one
  split at hf
  · cases rx
    exact call_int1 pins s σ H _ us Q J r (Or.inl ⟨_, rfl, go.now hf hr (.int _)⟩)
  · cases rx
    exact call_int1 pins s σ H _ us Q J r (Or.inr ⟨_, rfl, go.now hf hr (.int _)⟩)
  · exact hf.elim
theorem o_bool : DC X (.type "bool") fBool := by
  intro pins s σ H xs us Q J r ⟨I, ds, h, R, hr, rd, ⟨x, e, hf⟩, go⟩
  subst e
  obtain ⟨v, rfl, rx⟩ := rd.one
  split at hf
  · cases rx
    exact call_bool1 pins s σ H _ us Q J r (Or.inl ⟨_, rfl, go.now hf hr (.bl _)⟩)
  · cases rx
    exact call_bool1 pins s σ H _ us Q J r (Or.inr ⟨_, rfl, go.now hf hr (.bl _)⟩)
  · exact hf.elim
theorem o_str : DC X (.type "str") fStr := by
  intro pins s σ H xs us Q J r ⟨I, ds, h, R, hr, rd, ⟨x, e, hf⟩, go⟩
  subst e
  obtain ⟨v, rfl, rx⟩ := rd.one
  split at hf
  · cases rx
    exact call_str_int pins s σ H _ us Q J r ⟨_, rfl, hf.1, go.now hf.2 hr (.str _)⟩
  · exact hf.elim
theorem o_tuple : DC X (.type "tuple") fTuple := by
  intro pins s σ H xs us Q J r ⟨I, ds, h, R, hr, rd, ⟨x, k, es, e, e1, hR⟩, go⟩
  subst e
  obtain ⟨v, rfl, rx⟩ := rd.one
  obtain ⟨p, ws, rfl, hs, rs⟩ := sqv_ok hr rx e1
  refine call_tuple_of pins s σ H _ us Q J r ⟨p, ws, rfl, ?_⟩
  rcases hs with ⟨_, hs⟩ | ⟨hk, hs⟩
  · exact Or.inl ⟨hs, go.tup hR hr rs⟩
  · refine Or.inr ⟨hs, ?_⟩
    subst hk
    cases x with
    | tup qs =>
      cases e1
      exact go.now hR hr rx
    | ref n =>
      unfold sqv at e1
      simp only at e1
      split at e1 <;> cases e1
    | _ => cases e1
theorem o_list : DC X (.type "list") fList := by
  intro pins s σ H xs us Q J r ⟨I, ds, h, R, hr, rd, ⟨x, k, es, e, e1, hR⟩, go⟩
  subst e
  obtain ⟨v, rfl, rx⟩ := rd.one
  obtain ⟨p, ws, rfl, hs, rs⟩ := sqv_ok hr rx e1
  exact call_list_of pins s σ H _ us Q J r ⟨p, ws, rfl, hs.imp (·.2) (·.2), go.lst hR hr rs⟩
theorem o_listN : DC X (.type "list") fListN := by
  intro pins s σ H xs us Q J r ⟨I, ds, h, R, hr, rd, ⟨x, k, es, e, e1, hR⟩, go⟩
  subst e
  obtain ⟨v, rfl, rx⟩ := rd.one
  obtain ⟨p, ws, rfl, hs, rs⟩ := sqv_ok hr rx e1
  exact call_list_of pins s σ H _ us Q J r ⟨p, ws, rfl, hs.imp (·.2) (·.2), go.lstN hR hr rs⟩
theorem o_sum (hc : X.calm = true) : DC X (.builtin "sum") fSum := by
  intro pins s σ H xs us Q J r ⟨I, ds, h, R, hr, rd, ⟨x, ns, e, e1, hR⟩, go⟩
  subst e
  obtain ⟨v, rfl, rx⟩ := rd.one
  obtain ⟨p, ws, rfl, hs, rs⟩ := sqv_ok hr rx e1
  have := rs.ints
  subst this
  rcases hs with ⟨_, hs⟩ | ⟨hk, hs⟩
  · exact cr_sum hc pins s σ H _ us Q J r ⟨p, ns, rfl, hs, go.now hR hr (.int _)⟩
  · cases hk
theorem o_all (hc : X.calm = true) : DC X (.builtin "all") fAll := by
  intro pins s σ H xs us Q J r ⟨I, ds, h, R, hr, rd, ⟨x, ns, e, e1, hR⟩, go⟩
  subst e
  obtain ⟨v, rfl, rx⟩ := rd.one
  obtain ⟨p, ws, rfl, hs, rs⟩ := sqv_ok hr rx e1
  have := rs.bls
  subst this
  rcases hs with ⟨_, hs⟩ | ⟨hk, hs⟩
  · exact cr_all hc pins s σ H _ us Q J r ⟨p, ns, rfl, hs, go.now hR hr (.bl _)⟩
  · cases hk
theorem o_any (hc : X.calm = true) : DC X (.builtin "any") fAny := by
  intro pins s σ H xs us Q J r ⟨I, ds, h, R, hr, rd, ⟨x, ns, e, e1, hR⟩, go⟩
  subst e
  obtain ⟨v, rfl, rx⟩ := rd.one
  obtain ⟨p, ws, rfl, hs, rs⟩ := sqv_ok hr rx e1
  have := rs.bls
  subst this
  rcases hs with ⟨_, hs⟩ | ⟨hk, hs⟩
  · exact cr_any hc pins s σ H _ us Q J r ⟨p, ns, rfl, hs, go.now hR hr (.bl _)⟩
  · cases hk
end

/-! ### repr -/
/-- what may be written out -/
structure ShowP (p : PyData) : Prop where
  sh : p.showable = true
  nd : p.hasDict = false
  dp : p.depth ≤ 60
  sz : p.shown.length ≤ sizeLine
def fRepr : FA := fun ds h R => ∃ x p, ds = [x] ∧ toP (vw h x) = some p ∧ ShowP p ∧ R (.str p.shown) h
theorem o_repr {X : Cx} {k : Nat} (hr : Room k X.A) (gd : X.A.guards = some []) : DC X (.builtin "repr") fRepr := by
  intro pins s σ H xs us Q J r ⟨I, ds, h, R, hr0, rd, ⟨x, p, e, e1, sp, hR⟩, go⟩
  subst e
  obtain ⟨v, rfl, rx⟩ := rd.one
  obtain ⟨u, rfl, ru⟩ := vals1 r
  have dp := dp_vw hr0 rx e1
  obtain ⟨as, rr⟩ := Dp.reads J p v u dp ru
  have q : Q (.str p.shown) H := go.now hR hr0 (.str _)
  have hu := hr.units
  have hd := sp.dp
  cases rr with
  | none => exact PySem.P.repr_of_none ⟨V.str _, H, J.tok _, ⟨_, rfl⟩, q⟩
  | bool b => exact PySem.P.repr_of_bool ⟨V.str _, H, J.tok _, ⟨_, rfl⟩, q⟩
  | int i t =>
    have hi : i.natAbs.log2 < 1920 := by
      have := sp.sh
      simpa [PyData.showable] using this
    exact PySem.P.repr_of_int hi ⟨V.str _, H, J.tok _, ⟨_, rfl⟩, q⟩
  | str z t => exact PySem.P.repr_of_str ⟨V.str _, H, J.tok _, ⟨_, rfl⟩, q⟩ sp.sz
  | list a1 a2 a3 a4 =>
    exact repr_of_reads' (.list a1 a2 a3 a4) sp.sh (PyData.noDict_hsm sp.nd) gd (by omega) (fun _ _ e => e) (fun h' u tk hk => ⟨V.str _, H, J.kept hk, ⟨_, rfl⟩, q⟩) sp.sz
  | tuple a1 a2 a3 a4 =>
    exact repr_of_reads' (.tuple a1 a2 a3 a4) sp.sh (PyData.noDict_hsm sp.nd) gd (by omega) (fun _ _ e => e) (fun h' u tk hk => ⟨V.str _, H, J.kept hk, ⟨_, rfl⟩, q⟩) sp.sz
  | dict a1 a2 a3 a4 a5 =>
    have := sp.nd
    simp [PyData.hasDict] at this

/-! ### methods -/
def mAppend : FM := fun x ds h R => ∃ n y es, x = .ref n ∧ ds = [y] ∧ h[n]? = some (.lst es) ∧ es.length < sizeLine ∧ R .non (h.set n (.lst (es ++ [y])))
def mJoin : FM := fun x ds h R => ∃ (a : Str) (y : D) (k : Bool) (ss : List Str), x = .str a ∧ ds = [y] ∧ sqv h y = some (k, ss.map D.str) ∧ (ss.map (·.length)).sum + ss.length * a.length ≤ 16777216 ∧ R (.str (Txt.join a ss)) h
section
variable {X : Cx}
theorem o_append : MtR X "list.append" (upM X.K mAppend) := by
  intro pins s σ H x xs v us Q J rv r ⟨I, dx, ds, h, R, hr, rx, rd, ⟨n, y, es, e1, e2, e3, hl, hR⟩, go⟩
  subst e1 e2
  obtain ⟨a, rfl, q⟩ := rx.refv
  obtain ⟨w, rfl, rw'⟩ := rd.one
  obtain ⟨ws, q2, r2⟩ := hr.ob n a _ q e3
  have m : a ∈ I := List.mem_of_getElem? q
  have s1 : Stp I H I (upd H a (.lst (ws ++ [w]))) := Stp.put m ⟨_, q2, trivial⟩
  refine mt_append pins s σ H _ _ v us Q J rv r ⟨a, ws, w, rfl, rfl, q2, by rw [← r2.length]; exact hl, ?_⟩
  exact go _ _ I _ _ hR s1 (hr.put q ⟨_, upd_same, (r2.append (.cons rw' .nil)).step s1⟩) .non
theorem o_join : MtR X "str.join" (upM X.K mJoin) := by
  intro pins s σ H x xs v us Q J rv r ⟨I, dx, ds, h, R, hr, rx, rd, ⟨a, y, k, ss, e1, e2, e3, hl, hR⟩, go⟩
  subst e1 e2
  cases rx
  obtain ⟨w, rfl, rw'⟩ := rd.one
  obtain ⟨p, ws, rfl, hs, rs⟩ := sqv_ok hr rw' e3
  have := rs.strs
  subst this
  exact mt_join pins s σ H _ _ v us Q J rv r ⟨a, p, ss, rfl, rfl, hs.imp (·.2) (·.2), hl, go.now hR hr (.str _)⟩
end

/-! ### comprehensions -/
def wipeD (δ : DS) : List Nat → DS
  | [] => δ
  | v :: vs => (wipeD δ vs).set v none
theorem SR.forget {K : Fg} {H : Hp} {I : List Addr} {δ : DS} {σ : L2.St} (r : SR K H I δ σ) (i : Nat) : SR K H I (δ.set i none) (σ.set i none) := by
  refine ⟨by rw [List.length_set, List.length_set]; exact r.1, fun j e q => ?_⟩
  by_cases z : i = j
  · subst z
    have hl : i < δ.length := by
      have := (List.getElem?_eq_some_iff.mp q).1
      rw [List.length_set] at this
      exact this
    rw [List.getElem?_set_self hl] at q
    cases q
  · rw [List.getElem?_set_ne z] at q
    rw [List.getElem?_set_ne z]
    exact r.2 j e q
theorem SR.wiped {K : Fg} {H : Hp} {I : List Addr} {δ : DS} {σ : L2.St} (r : SR K H I δ σ) : ∀ vs : List Nat, SR K H I (wipeD δ vs) (wipe σ vs)
  | [] => r
  | v :: vs => (r.wiped vs).forget v
theorem wipe_set {σ : L2.St} {i : Nat} {x : Option V} : ∀ {vs : List Nat}, i ∈ vs → wipe (σ.set i x) vs = wipe σ vs := by
  have comm : ∀ (σ : L2.St) (vs : List Nat), i ∉ vs → wipe (σ.set i x) vs = (wipe σ vs).set i x := by
    intro σ vs
    induction vs with
    | nil => exact fun _ => rfl
    | cons v vs ih =>
      intro h
      have h1 : i ≠ v := fun z => h (z ▸ List.mem_cons_self)
      have h2 : i ∉ vs := fun z => h (List.mem_cons_of_mem _ z)
      show (wipe (σ.set i x) vs).set v none = ((wipe σ vs).set v none).set i x
      rw [ih h2, List.set_comm _ _ h1]
  intro vs
  induction vs with
  | nil =>
    intro h
    cases h
  | cons v vs ih =>
    intro h
    show (wipe (σ.set i x) vs).set v none = (wipe σ vs).set v none
    by_cases z : i ∈ vs
    · rw [ih z]
    · have : i = v := by
        rcases List.mem_cons.mp h with e | e
        · exact e
        · exact absurd e z
      subst this
      rw [comm σ vs z, List.set_set]
/-- a comprehension's target: a name, or names of a tuple's parts -/
inductive CTg where
  | one (i : Nat) : CTg
  | many (is : List Nat) : CTg
def setAll : DS → List Nat → List D → DS
  | δ, i :: is, d :: ds => setAll (δ.set i (some d)) is ds
  | δ, _, _ => δ
def CTg.put : CTg → D → DS → (DS → Prop) → Prop
  | .one i, d, δ, R => R (δ.set i (some d))
  | .many is, d, δ, R => ∃ ds, d = .tup ds ∧ ds.length = is.length ∧ R (setAll δ is ds)
def CTg.slots : CTg → List Nat
  | .one i => [i]
  | .many is => is
def gsOf : List Nat → TGs
  | [] => gNil
  | i :: is => gCons (gName i) (gsOf is)
def CTg.g (K : Fg) : CTg → TG
  | .one i => gName i
  | .many is => gTup K is.length (gsOf is)
theorem gsOf_ok {K : Fg} {H : Hp} {I : List Addr} {vs : List Nat} : ∀ {is : List Nat} {ds : List D} {ws : List V} {δ : DS} {σ : L2.St} {Q : L2.St → Hp → Prop}, RDs K H I ds ws → ds.length = is.length → SR K H I δ σ → (∀ i ∈ is, i ∈ vs) →
    (∀ σ', SR K H I (setAll δ is ds) σ' → wipe σ' vs = wipe σ vs → Q σ' H) → gsOf is ws σ H Q
  | [], _, _, δ, σ, Q, .nil, _, sr, _, q => ⟨rfl, q σ sr rfl⟩
  | [], _, _, _, _, _, .cons _ _, e, _, _, _ => by cases e
  | i :: is, _, _, _, _, _, .nil, e, _, _, _ => by cases e
  | i :: is, _, _, δ, σ, Q, .cons a r, e, sr, hv, q => by
    refine ⟨_, _, rfl, gsOf_ok r (by injection e) (sr.set i a) (fun j hj => hv j (List.mem_cons_of_mem _ hj)) fun σ' sr' w => q σ' sr' ?_⟩
    rw [w, wipe_set (hv i List.mem_cons_self)]
theorem CTg.ok {K : Fg} {H : Hp} {I : List Addr} {vs : List Nat} {c : CTg} {d : D} {w : V} {δ : DS} {σ : L2.St} {R : DS → Prop} {Q : L2.St → Hp → Prop} (hv : ∀ i ∈ c.slots, i ∈ vs) (rd : RD K H I d w) (sr : SR K H I δ σ) (p : c.put d δ R)
    (q : ∀ δ' σ', R δ' → SR K H I δ' σ' → wipe σ' vs = wipe σ vs → Q σ' H) : c.g K w σ H Q := by
  cases c with
  | one i => exact q _ _ p (sr.set i rd) (wipe_set (hv i List.mem_cons_self))
  | many is =>
    obtain ⟨ds, rfl, hl, p⟩ := p
    cases rd with
    | tup a b => exact ⟨_, _, rfl, a.sq, by rw [← b.length]; exact hl, gsOf_ok b hl sr hv fun σ' sr' w => q _ σ' p sr' w⟩
/-- the comprehension's tests -/
abbrev DTs (X : Cx) (ifs : List Expr) (t : TDT) : Prop := PTs X ifs (upT X.K t)
theorem PTs.imp {X : Cx} {e : List Expr} {t t' : TT} (h : PTs X e t) (i : ∀ σ H Q, t' σ H Q → t σ H Q) : PTs X e t' := ⟨fun pins s σ H Q I q => h.run pins s σ H Q I (i σ H Q q)⟩
def dYes : TDT := fun _ h R => R true h
theorem ts_nil {X : Cx} : DTs X [] dYes := PTs.imp pts_nil fun σ H Q ⟨I, δ, h, R, sr, hr, r, g⟩ => g true h I H r Stp.refl hr
theorem ts_one {X : Cx} {c : Expr} {t : TDT} (h : DT X c t) : DTs X [c] t := pts_one h
theorem wipe_wipe (σ : L2.St) (vs : List Nat) : wipe (wipe σ vs) vs = wipe σ vs := by
  have key : ∀ (us : List Nat) (τ : L2.St), (∀ i ∈ us, i < τ.length → τ[i]? = some none) → wipe τ us = τ := by
    intro us
    induction us with
    | nil => exact fun _ _ => rfl
    | cons u us ih =>
      intro τ h
      show (wipe τ us).set u none = τ
      rw [ih τ fun i hi => h i (List.mem_cons_of_mem _ hi)]
      apply List.ext_getElem?
      intro j
      by_cases z : u = j
      · subst z
        by_cases hl : u < τ.length
        · rw [List.getElem?_set_self hl, h u List.mem_cons_self hl]
        · rw [List.getElem?_eq_none (by rw [List.length_set]; omega), List.getElem?_eq_none (by omega)]
      · rw [List.getElem?_set_ne z]
  refine key vs _ fun i hi hl => ?_
  cases e : (wipe σ vs)[i]? with
  | none =>
    rw [List.getElem?_eq_none_iff] at e
    omega
  | some o =>
    cases o with
    | none => rfl
    | some x => exact absurd hi (wipe_some e).2
/-- [elt for target in .. if ..]: Pv by the turn, what is made so far, and our objects (of the number as before) -/
def dLcP (si : TDI) (c : CTg) (tt : TDT) (te : TDE) (vs : List Nat) (fin : List D → OS → DK → Prop) : TDE := fun δ h R => si δ h fun S h1 => ∃ Pv : Nat → List D → OS → Prop, Pv 0 [] h1 ∧ (∀ i acc h, i ≤ S.items.length → Pv i acc h → h.length = h1.length ∧ acc.length ≤ i ∧ okOs h.length h ∧ okRs h.length acc ∧ S.G (h ++ [.lst acc])) ∧ S.items.length < sizeLine ∧
  (∀ (i : Nat) d acc h, S.items[i]? = some d → Pv i acc h → c.put d (wipeD δ vs) fun δ2 => tt δ2 (h ++ [.lst acc]) fun b h3 =>
    if b = true then te δ2 h3 fun y h4 => ∃ h5 g, h4 = h5 ++ (.lst acc :: g) ∧ okOs h1.length h5 ∧ okR h1.length y ∧ Pv (i + 1) (acc ++ [y]) h5 else ∃ h5 g, h3 = h5 ++ (.lst acc :: g) ∧ okOs h1.length h5 ∧ Pv (i + 1) acc h5) ∧
  ∀ acc h, Pv S.items.length acc h → fin acc h R
mutual
theorem okR.mono {m n : Nat} (h : m ≤ n) : ∀ {d : D}, okR m d → okR n d
  | .ref i, k => Nat.lt_of_lt_of_le (show i < m from k) h
  | .tup ds, k => okRs.mono h (ds := ds) k
  | .lst ds, k => okRs.mono h (ds := ds) k
  | .scr ds, k => okRs.mono h (ds := ds) k
  | .dct _ ds, k => okRs.mono h (ds := ds) k
  | .ins _ _ ds, k => okRs.mono h (ds := ds) k
  | .non, _ => trivial
  | .bl _, _ => trivial
  | .int _, _ => trivial
  | .str _, _ => trivial
  | .ty _, _ => trivial
  | .obj _, _ => trivial
theorem okRs.mono {m n : Nat} (h : m ≤ n) : ∀ {ds : List D}, okRs m ds → okRs n ds
  | [], _ => trivial
  | d :: ds, k => ⟨okR.mono h (d := d) k.1, okRs.mono h (ds := ds) k.2⟩
end
theorem okO.mono {m n : Nat} (h : m ≤ n) {o : O} (k : okO m o) : okO n o := by
  cases o with
  | lst ds => exact okRs.mono h k
  | dct qs => exact okRs.mono h k
  | fdc qs => exact okRs.mono h k
  | ins C qs => exact okRs.mono h k
theorem okOs.mono {m n : Nat} (h : m ≤ n) {os : OS} (k : okOs m os) : okOs n os := okOs_iff.mpr fun o ho => (okOs_iff.mp k o ho).mono h
theorem okOs_append {n : Nat} {a b : OS} (h1 : okOs n a) (h2 : okOs n b) : okOs n (a ++ b) := okOs_iff.mpr fun o ho => by
  rcases List.mem_append.mp ho with z | z
  · exact okOs_iff.mp h1 o z
  · exact okOs_iff.mp h2 o z
theorem okRs_append {n : Nat} {a b : List D} (h1 : okRs n a) (h2 : okRs n b) : okRs n (a ++ b) := okRs_iff.mpr fun o ho => by
  rcases List.mem_append.mp ho with z | z
  · exact okRs_iff.mp h1 o z
  · exact okRs_iff.mp h2 o z
theorem lc_up {K : Fg} {si : TDI} {c : CTg} {tt : TDT} {te : TDE} {vs : List Nat} {fin : List D → OS → DK → Prop} {σ : L2.St} {H : Hp} {Q : VK} (hv : ∀ i ∈ c.slots, i ∈ vs)
    (hfin : ∀ acc h I Dd H2 (R : DK) (Q : VK), fin acc h R → HR K (I ++ [Dd]) (h ++ [.lst acc]) H2 → okOs h.length h → okRs h.length acc → I.length = h.length →
      (∀ d h' I' v, R d h' → (I' = I ∨ I' = I ++ [Dd]) → HR K I' h' H2 → RD K H2 I' d v → Q v H2) → Q (.ref Dd) H2)
    (q : up K (dLcP si c tt te vs fin) σ H Q) : tLc (upI K si) (c.g K) (upT K tt) (up K te) vs σ H Q := by
  obtain ⟨I, δ, h, R, sr, hr, q, go⟩ := q
  refine ⟨I, δ, h, _, sr, hr, q, fun S h1 I1 H1 J ⟨Pv, p0, pG, psz, ps, pd⟩ s1 hr1 w Dd eD => ?_⟩
  have len1 : I1.length = h1.length := hr1.len
  have sr1 := (sr.step s1).wiped vs
  refine ⟨fun i m H2 => m + i = S.items.length ∧ ∃ acc h2, HR K (I1 ++ [Dd]) (h2 ++ [.lst acc]) H2 ∧ Stp I1 H1 (I1 ++ [Dd]) H2 ∧ Pv i acc h2, ⟨S.items.length, Nat.add_zero _, [], h1, hr1.push (x := .lst []) eD ⟨[], upd_same, .nil⟩, Stp.push eD, p0⟩, ?_⟩
  rintro i m H2 ⟨hm, acc, h2, hr2, s2, p2⟩
  obtain ⟨hl, hacc, ok1, ok2, gd⟩ := pG i acc h2 (by omega) p2
  by_cases hi : i = S.items.length
  · left
    subst hi
    refine ⟨w.stops _ H2 _ s2 hr2 gd, ?_⟩
    refine hfin acc h2 I1 Dd H2 R Q (pd acc h2 p2) hr2 ok1 ok2 (by rw [len1, hl]) fun d h' I' v hR hI hr' rd => ?_
    have st : Stp I1 H1 I' H2 := by
      rcases hI with e | e
      · subst e
        have := s2.drop (n := I'.length) (Nat.le_refl _)
        rw [List.take_append_of_le_length (Nat.le_refl _), List.take_length] at this
        exact this
      · subst e
        exact s2
    exact go d h' I' H2 v hR (s1.trans st) hr' rd
  · right
    have hlt : i < S.items.length := by omega
    have e : S.items[i]? = some S.items[i] := List.getElem?_eq_getElem hlt
    refine ⟨w.goes i _ H2 _ s2 hr2 gd hlt, fun H' => ∃ acc h2, HR K (I1 ++ [Dd]) (h2 ++ [.lst acc]) H' ∧ Stp I1 H1 (I1 ++ [Dd]) H' ∧ Pv (i + 1) acc h2, ?_, ?_⟩
    · rintro H' ⟨acc', h', a, b, d⟩
      exact ⟨m - 1, by omega, by omega, acc', h', a, b, d⟩
    · intro x H3 y
      obtain ⟨s3, hr3, rd⟩ := w.yields i _ H2 _ _ x H3 s2 hr2 gd e y
      have s13 := s2.trans s3
      refine CTg.ok hv rd (sr1.step s13) (ps i _ acc h2 e p2) fun δ2 σ2 q2 sr2 ws => ⟨?_, ?_⟩
      · rw [ws]
        exact wipe_wipe σ vs
      · refine ⟨_, δ2, _, _, sr2, hr3, q2, fun b h3 I4 H4 q4 s4 hr4 => ?_⟩
        have s14 := s13.trans s4
        -- the objects behind, forgotten
        have back : ∀ {h4 : OS} {I5 : List Addr} {H5 : Hp} {h5 g : OS} {acc' : List D}, Stp I1 H1 I5 H5 → (∃ new, I5 = (I1 ++ [Dd]) ++ new) → HR K I5 (h5 ++ (.lst acc' :: g)) H5 → okOs h1.length h5 → Pv (i + 1) acc' h5 →
            ∃ acc h2, HR K (I1 ++ [Dd]) (h2 ++ [.lst acc]) H5 ∧ Stp I1 H1 (I1 ++ [Dd]) H5 ∧ Pv (i + 1) acc h2 := by
          intro h4 I5 H5 h5 g acc' st hI5 hr5 ok5 p5
          obtain ⟨new, rfl⟩ := hI5
          obtain ⟨hl5, _, _, oka, _⟩ := pG (i + 1) acc' h5 (by omega) p5
          have hr6 : HR K (((I1 ++ [Dd]) ++ new).take (h5 ++ [O.lst acc']).length) (h5 ++ [O.lst acc']) H5 := by
            refine HR.drop (g := g) ?_ ?_
            · have e8 : h5 ++ [O.lst acc'] ++ g = h5 ++ (O.lst acc' :: g) := by
                rw [List.append_assoc]
                rfl
              rw [e8]
              exact hr5
            · refine okOs_append (ok5.mono ?_) ⟨oka.mono ?_, trivial⟩
              · rw [List.length_append, hl5]
                exact Nat.le_add_right _ _
              · rw [List.length_append]
                exact Nat.le_add_right _ _
          have e6 : ((I1 ++ [Dd]) ++ new).take (h5 ++ [O.lst acc']).length = I1 ++ [Dd] := by
            have : (h5 ++ [O.lst acc']).length = (I1 ++ [Dd]).length := by
              rw [List.length_append, List.length_append, hl5, len1]
              rfl
            rw [this, List.take_append_of_le_length (Nat.le_refl _), List.take_length]
          rw [e6] at hr6
          refine ⟨acc', h5, hr6, ?_, p5⟩
          have := st.drop (n := (I1 ++ [Dd]).length) (by rw [List.length_append]; exact Nat.le_add_right _ _)
          rw [List.take_append_of_le_length (Nat.le_refl _), List.take_length] at this
          exact this
        cases b with
        | false =>
          have q4' : ∃ h5 g, h3 = h5 ++ (.lst acc :: g) ∧ okOs h1.length h5 ∧ Pv (i + 1) acc h5 := q4
          obtain ⟨h5, g, rfl, ok5, p5⟩ := q4'
          obtain ⟨new, e5, _⟩ := s4.pre
          exact back (h4 := []) s14 ⟨new, e5⟩ hr4 ok5 p5
        | true =>
          refine ⟨I4, δ2, h3, _, sr2.step s4, hr4, q4, fun y h4 I5 H5 yv q5 s5 hr5 ry => ?_⟩
          obtain ⟨h5, g, rfl, ok5, oky, p5⟩ := q5
          have s15 := s14.trans s5
          obtain ⟨hl5, hacc5, _, _, _⟩ := pG (i + 1) (acc ++ [y]) h5 (by omega) p5
          obtain ⟨new, e5, _⟩ := (s4.trans s5).pre
          have eD5 : I5[h5.length]? = some Dd := by
            rw [e5, hl5, ← len1, List.append_assoc, List.getElem?_append_right (Nat.le_refl _), Nat.sub_self]
            rfl
          have ob := hr5.ob h5.length Dd (.lst acc) eD5 (by rw [List.getElem?_append_right (Nat.le_refl _), Nat.sub_self]; rfl)
          obtain ⟨accV, eA, rA⟩ := ob
          have hlen : acc.length < sizeLine := by
            rw [List.length_append] at hacc5
            have : acc.length + 1 ≤ i + 1 := hacc5
            omega
          refine ⟨accV, eA, by rw [← rA.length]; exact hlen, ?_⟩
          have mD : Dd ∈ I5 := List.mem_of_getElem? eD5
          have s6 : Stp I5 H5 I5 (upd H5 Dd (.lst (accV ++ [yv]))) := Stp.put mD ⟨_, eA, trivial⟩
          have hr6 := hr5.put (x := .lst (acc ++ [y])) eD5 ⟨_, upd_same, (rA.append (.cons ry .nil)).step s6⟩
          have e7 : (h5 ++ (O.lst acc :: g)).set h5.length (.lst (acc ++ [y])) = h5 ++ (.lst (acc ++ [y]) :: g) := by
            rw [List.set_append_right _ _ (Nat.le_refl _), Nat.sub_self]
            rfl
          rw [e7] at hr6
          exact back (h4 := []) (s15.trans s6) ⟨new, e5⟩ hr6 ok5 p5
def dLc (si : TDI) (c : CTg) (tt : TDT) (te : TDE) (vs : List Nat) : TDE := dLcP si c tt te vs fun acc h R => R (.lst acc) h
def dLcN (si : TDI) (c : CTg) (tt : TDT) (te : TDE) (vs : List Nat) : TDE := dLcP si c tt te vs fun acc h R => R (.ref h.length) (h ++ [.lst acc])
section
variable {X : Cx} {elt tg iter : Expr} {ifs : List Expr} {scope : Scope} {own : List (Str × Nat)} {pos : Pos} {si : TDI} {c : CTg} {tt : TDT} {te : TDE}
theorem fin_val {K : Fg} : ∀ (acc : List D) (h : OS) (I : List Addr) (Dd : Addr) (H2 : Hp) (R : DK) (Q : VK), R (.lst acc) h → HR K (I ++ [Dd]) (h ++ [.lst acc]) H2 → okOs h.length h → okRs h.length acc → I.length = h.length →
      (∀ d h' I' v, R d h' → (I' = I ∨ I' = I ++ [Dd]) → HR K I' h' H2 → RD K H2 I' d v → Q v H2) → Q (.ref Dd) H2 := by
  intro acc h I Dd H2 R Q hR hr ok1 ok2 hl q
  have hr2 := hr.drop ok1
  have e : (I ++ [Dd]).take h.length = I := by
    rw [← hl, List.take_append_of_le_length (Nat.le_refl _), List.take_length]
  rw [e] at hr2
  have eD : (I ++ [Dd])[h.length]? = some Dd := by
    rw [← hl, List.getElem?_append_right (Nat.le_refl _), Nat.sub_self]
    rfl
  have fz := frozen (m := h.length) hr (.ref eD) (show (h ++ [O.lst acc])[h.length]? = some (.lst acc) by rw [List.getElem?_append_right (Nat.le_refl _), Nat.sub_self]; rfl) (Nat.le_refl _) ok2
  rw [e] at fz
  exact q _ h I _ hR (Or.inl rfl) hr2 fz
theorem fin_new {K : Fg} : ∀ (acc : List D) (h : OS) (I : List Addr) (Dd : Addr) (H2 : Hp) (R : DK) (Q : VK), R (.ref h.length) (h ++ [.lst acc]) → HR K (I ++ [Dd]) (h ++ [.lst acc]) H2 → okOs h.length h → okRs h.length acc → I.length = h.length →
      (∀ d h' I' v, R d h' → (I' = I ∨ I' = I ++ [Dd]) → HR K I' h' H2 → RD K H2 I' d v → Q v H2) → Q (.ref Dd) H2 := by
  intro acc h I Dd H2 R Q hR hr ok1 ok2 hl q
  refine q _ _ (I ++ [Dd]) _ hR (Or.inr rfl) hr (.ref ?_)
  rw [← hl, List.getElem?_append_right (Nat.le_refl _), Nat.sub_self]
  rfl
theorem d_lc (hc : X.calm = true) (hN : X.N.Nodup) (hi : DI X tg iter si) (ok : BlkOk X.N X.env.scope scope own) (hv : ∀ i ∈ c.slots, i ∈ own.map (·.2))
    (hg : ∀ (s : Shared) (H : Hp) (C : Addr) (cl : List (Str × Addr)) (fp : List Addr), PG (X.blk s H scope (compEnvC scope cl C X.env) fp) tg (c.g X.K)) (ht : ∀ (s : Shared) (H : Hp) (C : Addr) (cl : List (Str × Addr)) (fp : List Addr), DTs (X.blk s H scope (compEnvC scope cl C X.env) fp) ifs tt)
    (he : ∀ (s : Shared) (H : Hp) (C : Addr) (cl : List (Str × Addr)) (fp : List Addr), DE (X.blk s H scope (compEnvC scope cl C X.env) fp) elt te) (hs : ∀ x, foldedSetIterable iter X.env x = pure x := by intro _; rfl) :
    DE X (.ListComp elt [⟨tg, iter, ifs, 0⟩] scope pos) (dLc si c tt te (own.map (·.2))) := PE.imp (pe_lc hc hN hi ok hg ht he hs) fun _ _ _ => lc_up hv fin_val
theorem d_lcN (hc : X.calm = true) (hN : X.N.Nodup) (hi : DI X tg iter si) (ok : BlkOk X.N X.env.scope scope own) (hv : ∀ i ∈ c.slots, i ∈ own.map (·.2))
    (hg : ∀ (s : Shared) (H : Hp) (C : Addr) (cl : List (Str × Addr)) (fp : List Addr), PG (X.blk s H scope (compEnvC scope cl C X.env) fp) tg (c.g X.K)) (ht : ∀ (s : Shared) (H : Hp) (C : Addr) (cl : List (Str × Addr)) (fp : List Addr), DTs (X.blk s H scope (compEnvC scope cl C X.env) fp) ifs tt)
    (he : ∀ (s : Shared) (H : Hp) (C : Addr) (cl : List (Str × Addr)) (fp : List Addr), DE (X.blk s H scope (compEnvC scope cl C X.env) fp) elt te) (hs : ∀ x, foldedSetIterable iter X.env x = pure x := by intro _; rfl) :
    DE X (.ListComp elt [⟨tg, iter, ifs, 0⟩] scope pos) (dLcN si c tt te (own.map (·.2))) := PE.imp (pe_lc hc hN hi ok hg ht he hs) fun _ _ _ => lc_up hv fin_new
end
end FL
end
section
/-! A law's end over data. -/
namespace FL
open PySem PySem.Spec PyProof.Rows L2

/-- the law's own promise: a script of ints is handed in, True comes back -/
def spLaw : DSp := fun ds h R _ => ∃ ns : List Int, ds = [.scr (ns.map D.int)] ∧ h = [] ∧ ns.length ≤ 63 ∧ R (.bl true) []

section
variable {P : Program} {w : World} {K : Fg} {mg mb : Str → Option Value} {CX : CXT} {k : Nat} {fa a : Addr} {fd : FuncData} {x : Str} {s1 : Shared} {vs : List Value} {ns : List Int}
theorem law_run (H : Hp) (only : Only H) (hS : SqL K H a (ns.map V.int)) (hok : HOk P w H s1.heap) (hA : ∀ b, H b ≠ none → b = a) (hK : H a ≠ none → K.lookup a = none)
    (KX : K.In s1.heap) (hns : s1.heap.Ns mainGlobals mg) (hb : s1.heap.Ns builtinsNs mb) (hbb : ∀ x : Str, x ≠ "__name__" → mb x = bootBuiltins x) (lim : s1.heap.NoLimit) (hg : s1.gens = #[])
    (ha : s1.heap.get? a = some { cls := .type "list", data := .seq vs.toArray }) (hr : Room k callerA) (hl : ns.length ≤ 63)
    (F : ∀ base : Heap, K.In base → base.Ns mainGlobals mg → FnD P w K mg base CX k fa fd [x] spLaw) (bind : ∀ (s : Shared) (u : Value), BindsTo s fd ⟨[u], []⟩ [(x, u)])
    (hCX : ∀ H e s', CX [] H s1 (fun _ _ _ => False) e s' → False) :
    codeAny (model P w) callerA (.call (.ref fa) ⟨[.ref a], []⟩) (fun r s' => r = .ok (.ret (.bool true)) ∧ OldK s1.heap s'.heap ∧ s'.os = s1.os ∧ AllBare s'.gens) s1 := by
  -- nothing but the script is tracked, so dicts are not
  have noD : ∀ (b : Addr) (o : Obj) (es : Array DictEntry) (ep : Nat), s1.heap.get? b = some o → o.data = .dict es ep → H b = none := by
    intro b o es ep e d
    cases q : H b with
    | none => rfl
    | some u =>
      have z : b = a := hA b (by rw [q]; exact Option.some_ne_none u)
      subst z
      rw [ha] at e
      cases e
      cases d
  have ns' : ∀ (b : Addr) (m : Str → Option Value), s1.heap.Ns b m → (hidT s1.heap H).Ns b m := by
    rintro b m ⟨o, es, ep, e, d, r⟩
    exact ⟨o, es, ep, hidT_get e (noD b o es ep e d), d, r⟩
  have inK : K.In (hidT s1.heap H) := by
    intro b o e
    refine hidT_get (KX b o e) ?_
    cases q : H b with
    | none => rfl
    | some u =>
      have nn : H b ≠ none := by rw [q]; exact Option.some_ne_none u
      have z : b = a := hA b nn
      subst z
      rw [hK nn] at e
      cases e
  have md : Mod K mg (hidT s1.heap H) := by
    refine ⟨inK, ns' _ _ hns, ⟨mb, ns' _ _ hb, hbb⟩, ?_⟩
    obtain ⟨mc, h1, h2⟩ := lim
    exact ⟨mc, ns' _ _ h1, h2⟩
  have e0 : Env0 P w K mg (hidT s1.heap H) callerA [] s1 H := by
    refine ⟨rfl, md, fun b o e => of_hidT e, Nat.le_of_eq (hidT_size _ _), trivial, fun b hb => ?_, hok, .of_eq hg⟩
    cases (show b ∈ ([] : List Addr) from hb)
  have st : upSp K spLaw [.ref a] H (fun v _ => v = .bl true) (fun _ _ _ => False) := by
    refine ⟨[], [.scr (ns.map D.int)], [], fun d h => d = .bl true, NoX, ⟨rfl, List.nodup_nil, fun i a o e => by cases e⟩, ?_, ⟨ns, rfl, rfl, hl, rfl⟩, ?_, GoX.no⟩
    · refine .cons (.scr ?_ (rds_ints ns)) .nil
      rcases hS with (hS | ⟨o, hS⟩) | hS
      · rcases only a with z | ⟨o, xs, z⟩
        · rw [z] at hS
          cases hS
        · rw [z] at hS
          cases hS
      · exact Or.inl ⟨o, hS, List.not_mem_nil⟩
      · exact Or.inr (Or.inr hS)
    · intro d h' I' H' v hd s2 hr2 rd
      subst hd
      cases rd
      rfl
  have run := (F _ inK (ns' _ _ hns)).run callerA [] s1 H ⟨[.ref a], []⟩ [.ref a] [.ref a] _ _ hr rfl e0 (bind s1 (.ref a)) (.cons rfl .nil) st
  refine codeAny_mono run ?_
  intro r s' h
  cases r with
  | error e => exact (hCX H e s' h).elim
  | ok fl =>
    cases fl with
    | next => exact h.elim
    | brk => exact h.elim
    | cont => exact h.elim
    | ret u =>
      obtain ⟨v, H', os, bare, un, hok', r', q⟩ := h
      have q' : v = .bl true := q
      subst q'
      obtain rfl : u = Value.bool true := r'
      refine ⟨rfl, OldK.of_keep ?_, os, bare⟩
      intro b o e
      cases q : H b with
      | none => exact un.keep b o e q (by intro z; cases (show b ∈ ([] : List Addr) from z)) (by intro z; cases z)
      | some u =>
        rcases only b with z | ⟨ob, xs, z⟩
        · rw [q] at z
          cases z
        · have e1 := (hok b _ z).1
          have e2 := (hok' b _ (un.frzs b ob _ z)).1
          rw [e] at e1
          cases e1
          exact e2
/-- from a def that keeps the law's promise to what k_head leaves -/
theorem walk_d {l : PySem.W.OpenLaw} {q : Program} {loose : List Str} {XP : (Str → Option Value) → Heap → Prop} {YP : World → Heap → Prop} {d : DefRec} {K : Params → Fg}
    (hn : l.most = some 63) (hdf : d.params.defaults = []) (hr : Room k callerA) (hY : ∀ (w : World) (h : Heap), YP w h → (K w.params).In h)
    (F : ∀ (w : World) (mg : Str → Option Value) (fa : Addr) (h : Heap), (K w.params).In h → h.Ns mainGlobals mg → mg d.name = some (.ref fa) →
      ∃ fd : FuncData, (∀ (s : Shared) (u : Value), BindsTo s fd ⟨[u], []⟩ [(x, u)]) ∧ ∀ base : Heap, (K w.params).In base → base.Ns mainGlobals mg → FnD l.prog w (K w.params) mg base CX0 k fa fd [x] spLaw) :
    PySem.W.WalkO q loose XP YP l.row.toRowW d [] (fun f vs => PySem.call f vs) := by
  refine Att.attach_call hn hdf ?_
  intro w s₀ s₁ mg mb fa o pm cd doc a vs ns G Y ho hd hcd hmg hobj hints hlen hg
  have KX := hY w _ Y
  obtain ⟨fd, hb, hF⟩ := F w mg fa _ KX G.T.g hmg
  have rv := vals_ints hints
  have len := hints.length
  have big : ns.length ≤ sizeLine := Nat.le_trans hlen (by decide)
  cases hk : (K w.params).lookup a with
  | some ob =>
    have e := KX a ob hk
    rw [hobj] at e
    cases e
    refine law_run (fun _ => none) (fun _ => Or.inl rfl) (Or.inr ⟨_, vs.toArray, _, hk, rfl, rfl, rfl, ?_, ?_⟩) ?_ (fun b z => absurd rfl z) (fun z => absurd rfl z) KX G.T.g G.T.b G.T.builtins G.T.nolimit hg hobj hr hlen hF hb (fun _ _ _ z => z)
    · rw [List.size_toArray, len]
      exact big
    · simpa using rv
    · intro b u z
      cases (show (none : Option HO) = some u from z)
  | none =>
    refine law_run (fun b => if b = a then some (.frz { cls := .type "list", data := .seq vs.toArray } (.lst (ns.map V.int))) else none) ?_ (Or.inl (Or.inr ⟨_, if_pos rfl⟩)) ?_ ?_ (fun _ => hk) KX G.T.g G.T.b G.T.builtins G.T.nolimit hg hobj hr hlen hF hb (fun _ _ _ z => z)
    · intro b
      by_cases z : b = a
      · exact Or.inr ⟨_, _, if_pos z⟩
      · exact Or.inl (if_neg z)
    · intro b u z
      by_cases e : b = a
      · have z' := (if_pos e).symm.trans z
        cases z'
        subst e
        exact ⟨hobj, by rw [List.length_map]; exact big, vs, _, rv, hobj⟩
      · have z' := (if_neg e).symm.trans z
        cases z'
    · intro b z
      by_cases e : b = a
      · exact e
      · exact absurd (if_neg e) z
end
end FL
end
section
/-! Short words for a text's own defs and classes. -/
namespace FL
open PySem PySem.Spec PyProof.Rows L2

/-- the module's name x is a def of n parameters that keeps sp -/
def GFn (P : Program) (w : World) (K : Fg) (mg : Str → Option Value) (base : Heap) (k : Nat) (x : Str) (n : Nat) (sp : DSp) : Prop :=
  ∃ f fd ps, FnD P w K mg base CX0 k f fd ps sp ∧ mg x = some (.ref f) ∧ PySem.W.keepIn K (.ref f) = true ∧ ps.length = n ∧ Binds K fd ps []
/-- a method of the class at C -/
def GMt (P : Program) (w : World) (K : Fg) (mg : Str → Option Value) (base : Heap) (k : Nat) (C : Addr) (m : Str) (n : Nat) (sp : DSp) : Prop :=
  ∃ f fd ps, FnD P w K mg base CX0 k f fd ps sp ∧ Meth K C m f ∧ ps.length = n + 1 ∧ Binds K fd ps []
/-- the class's making, by n values and keywords ks -/
def GMk (P : Program) (w : World) (K : Fg) (mg : Str → Option Value) (base : Heap) (k : Nat) (x : Str) (C : Addr) (n : Nat) (ks : List Str) (gD : List D → List D → List D) (sp : DSp) : Prop :=
  ∃ f fd ps g gV, FnD P w K mg base CX0 k f fd ps sp ∧ Mk K C f ∧ mg x = some (.ref C) ∧ KBn K fd ps (n + 1) ks g gV ∧ KBd gV gD
/-- f(..) -/
def dFn (sp : DSp) (t : TDA) : TDE := fun δ h R => t δ h fun ds h1 => sp ds h1 R NoX
/-- o.m(..) -/
def dMt (C : Addr) (mn : Str) (sp : DSp) (ta : TDE) (t : TDA) : TDE := fun δ h R => ta δ h fun x h1 => ∃ fs, insv h1 x = some (C, fs) ∧ fs.lookup mn = none ∧ t δ h1 fun ds h2 => sp (x :: ds) h2 R NoX
section
variable {X : Cx} {k n : Nat} {C : Addr} {x m : Str} {ks : List Str} {sp : DSp} {p pos apos : Pos} {e o : Expr} {es : List Expr} {kws : List Keyword} {t tk : TDA} {ta : TDE} {gD : List D → List D → List D}
theorem d_fn (G : GFn X.prog X.w X.K X.mg X.base k x n sp) (hr : Room k X.A) (gd : X.A.guards = some []) (hgl : Gl X x) (ha : DA X (e :: es) t)
    (hdb : (x == ("__debug__" : Str)) = false := by decide) (he : starEach (e :: es) X.env = (false, eval e X.env) :: starEach es X.env := by rfl) (hpl : (backTo pos (starEach es X.env)).any (·.1) = false := by rfl) :
    DE X (.Call (.Name x p) (e :: es) [] pos) (dFn sp t) := by
  obtain ⟨f, fd, ps, F, hm, hk, hn, hb⟩ := G
  refine ⟨fun pins s σ H Q J h => ?_⟩
  obtain ⟨I, δ, h0, R, sr, hr0, ht, go⟩ := h
  have q : upA X.K t σ H fun vs H1 => upSp X.K sp vs H1 Q E0 :=
    ⟨I, δ, h0, _, sr, hr0, ht, fun ds h1 I1 H1 vs hR s1 hr1 rs => ⟨I1, ds, h1, R, NoX, hr1, rs, hR, go.after s1, GoX.no⟩⟩
  refine wpAny_Call_Name_kw (ld_glob J hgl hm ?_ hdb)
  refine PySem.W.callWith_K (h₀ := X.base) J.ok.mod.kin hk (thn (ha.run pos pins s σ H _ J q) ?_) he hpl
  rintro us s1 ⟨vs, H1, J1, r, q1⟩
  refine ⟨J1.kIn, ?_⟩
  have l1 := F.len _ _ _ _ q1
  exact run_g (ks := []) (ws := []) (zs := []) F hr gd (kbn_of (n := n) hb .nil (by rw [hn]; rfl)) pass0 J1 r .nil (l1.trans hn) rfl (by rw [List.append_nil]; exact q1)
theorem d_fn0 (G : GFn X.prog X.w X.K X.mg X.base k x 0 sp) (hr : Room k X.A) (gd : X.A.guards = some []) (hgl : Gl X x) (hdb : (x == ("__debug__" : Str)) = false := by decide) :
    DE X (.Call (.Name x p) [] [] pos) (dFn sp dNil) := by
  obtain ⟨f, fd, ps, F, hm, hk, hn, hb⟩ := G
  refine ⟨fun pins s σ H Q J h => ?_⟩
  obtain ⟨I, δ, h0, R, sr, hr0, ht, go⟩ := h
  refine wpAny_Call_Name_kw (ld_glob J hgl hm ?_ hdb)
  refine PySem.W.callWith_K0 J.kIn hk ?_
  exact run_g (us := []) (vs := []) (ks := []) (ws := []) (zs := []) F hr gd (kbn_of (n := 0) hb .nil (by rw [hn]; rfl)) pass0 J .nil .nil rfl rfl ⟨I, [], h0, R, NoX, hr0, .nil, ht, go, GoX.no⟩
theorem d_mt {pl : Sem Bool} (ho : DE X o ta) (c : Cls X.K C) (G : GMt X.prog X.w X.K X.mg X.base k C m n sp) (hr : Room k X.A) (gd : X.A.guards = some []) (ha : DA X (e :: es) t)
    (hst : starEach (e :: es) X.env = (false, eval e X.env) :: starEach es X.env := by rfl) (hpl : (backTo pos (starEach es X.env)).any (·.1) = false := by rfl)
    (ht : eval (.Call (.Attribute o m apos) (e :: es) [] pos) X.env = (do
      let ov ← eval o X.env
      standAt apos.atName
      let (f, first) ← holding [ov] (getMethod ov m pl)
      callWith pos f first (backTo pos (starEach (e :: es) X.env)) (backToKw pos (keywordEach [] X.env))) := by rfl) :
    DE X (.Call (.Attribute o m apos) (e :: es) [] pos) (dMt C m sp ta t) := by
  obtain ⟨f, fd, ps, F, hm, hn, hb⟩ := G
  refine ⟨fun pins s σ H Q J ⟨I, δ, h, R, sr, hr0, hta, go⟩ => ?_⟩
  have q : up X.K ta σ H fun x H1 => ∃ a dx ws, x = .ref a ∧ H1 a = some (.ins C dx ws) ∧ ws.lookup m = none ∧ upA X.K t σ H1 fun vs H2 => upSp X.K sp (x :: vs) H2 Q E0 := by
    refine ⟨I, δ, h, _, sr, hr0, hta, fun d h1 I1 H1 v ⟨fs, e1, e2, q1⟩ s1 hr1 rd => ?_⟩
    obtain ⟨a, dx, ws, rfl, q2, l1, _⟩ := insv_ok hr1 rd e1
    refine ⟨a, dx, ws, rfl, q2, l1 _ e2, I1, δ, h1, _, sr.step s1, hr1, q1, fun ds h2 I2 H2 vs hs s2 hr2 rs => ?_⟩
    exact ⟨I2, d :: ds, h2, R, NoX, hr2, .cons (rd.step s2) rs, hs, go.after (s1.trans s2), GoX.no⟩
  refine PySem.W.methodCall_KW (pl := pl) (thn (ho.run pins s σ H _ J q) ?_) ht
  rintro u s1 ⟨x, H1, J1, rx, a, dx, ws, rfl, ea, l, q1⟩
  obtain rfl : u = Value.ref a := rx
  refine getmeth_ok J1 ea c hm l ?_
  refine PySem.W.callWith_K (first := [.ref a]) (h₀ := X.base) J.ok.mod.kin hm.kp (thn (ha.run pos pins s1 σ H1 _ J1 q1) ?_) hst hpl
  rintro us s2 ⟨vs, H2, J2, r, q2⟩
  refine ⟨J2.kIn, ?_⟩
  have l1 := F.len _ _ _ _ q2
  exact run_g (us := .ref a :: us) (vs := .ref a :: vs) (ks := []) (ws := []) (zs := []) F hr gd (kbn_of (n := n + 1) hb .nil (by rw [hn]; rfl)) pass0 J2 (.cons rfl r) .nil (l1.trans hn) rfl (by rw [List.append_nil]; exact q2)
theorem d_mt0 {pl : Sem Bool} (ho : DE X o ta) (c : Cls X.K C) (G : GMt X.prog X.w X.K X.mg X.base k C m 0 sp) (hr : Room k X.A) (gd : X.A.guards = some [])
    (ht : eval (.Call (.Attribute o m apos) [] [] pos) X.env = (do
      let ov ← eval o X.env
      standAt apos.atName
      let (f, first) ← holding [ov] (getMethod ov m pl)
      callWith pos f first (backTo pos (starEach [] X.env)) (backToKw pos (keywordEach [] X.env))) := by rfl) :
    DE X (.Call (.Attribute o m apos) [] [] pos) (dMt C m sp ta dNil) := by
  obtain ⟨f, fd, ps, F, hm, hn, hb⟩ := G
  refine ⟨fun pins s σ H Q J ⟨I, δ, h, R, sr, hr0, hta, go⟩ => ?_⟩
  have q : up X.K ta σ H fun x H1 => ∃ a dx ws, x = .ref a ∧ H1 a = some (.ins C dx ws) ∧ ws.lookup m = none ∧ upSp X.K sp [x] H1 Q E0 := by
    refine ⟨I, δ, h, _, sr, hr0, hta, fun d h1 I1 H1 v ⟨fs, e1, e2, hs⟩ s1 hr1 rd => ?_⟩
    obtain ⟨a, dx, ws, rfl, q2, l1, _⟩ := insv_ok hr1 rd e1
    exact ⟨a, dx, ws, rfl, q2, l1 _ e2, I1, [d], h1, R, NoX, hr1, .cons rd .nil, hs, go.after s1, GoX.no⟩
  refine PySem.W.methodCall_KW (pl := pl) (thn (ho.run pins s σ H _ J q) ?_) ht
  rintro u s1 ⟨x, H1, J1, rx, a, dx, ws, rfl, ea, l, q1⟩
  obtain rfl : u = Value.ref a := rx
  refine getmeth_ok J1 ea c hm l ?_
  refine PySem.W.callWith_K0 (first := [.ref a]) J1.kIn hm.kp ?_
  exact run_g (us := [.ref a]) (vs := [.ref a]) (ks := []) (ws := []) (zs := []) F hr gd (kbn_of (n := 1) hb .nil (by rw [hn]; rfl)) pass0 J1 (.cons rfl .nil) .nil rfl rfl (by rw [List.append_nil]; exact q1)
/-- C(..), an object of ours -/
theorem d_mk (G : GMk X.prog X.w X.K X.mg X.base k x C n [] gD sp) (hr : Room (k + 1) X.A) (gd : X.A.guards = some []) (hgl : Gl X x) (ha : DA X (e :: es) t)
    (hdb : (x == ("__debug__" : Str)) = false := by decide) (he : starEach (e :: es) X.env = (false, eval e X.env) :: starEach es X.env := by rfl) (hpl : (backTo pos (starEach es X.env)).any (·.1) = false := by rfl) :
    DE X (.Call (.Name x p) (e :: es) [] pos) (dMake C n 0 sp gD NoX t dNil) := by
  obtain ⟨f, fd, ps, g, gV, F, M, hm, hb, hg⟩ := G
  exact d_make (E := E0) M F hr gd hgl hm hg pass0 (fun _ _ => GoX.no) hb ha hdb he hpl
theorem d_mkV (G : GMk X.prog X.w X.K X.mg X.base k x C n [] gD sp) (hr : Room (k + 1) X.A) (gd : X.A.guards = some []) (hgl : Gl X x) (ha : DA X (e :: es) t)
    (hdb : (x == ("__debug__" : Str)) = false := by decide) (he : starEach (e :: es) X.env = (false, eval e X.env) :: starEach es X.env := by rfl) (hpl : (backTo pos (starEach es X.env)).any (·.1) = false := by rfl) :
    DE X (.Call (.Name x p) (e :: es) [] pos) (dMakeV C n 0 sp gD NoX t dNil) := by
  obtain ⟨f, fd, ps, g, gV, F, M, hm, hb, hg⟩ := G
  exact d_makeV (E := E0) M F hr gd hgl hm hg pass0 (fun _ _ => GoX.no) hb ha hdb he hpl
theorem d_mkK (G : GMk X.prog X.w X.K X.mg X.base k x C n ks gD sp) (hr : Room (k + 1) X.A) (gd : X.A.guards = some []) (hgl : Gl X x) (ha : DA X (e :: es) t) (hkw : DKw X kws tk)
    (hall : (backToKw pos (keywordEach kws X.env)).all (·.1.isSome) = true := by rfl) (hks : (backToKw pos (keywordEach kws X.env)).filterMap (·.1) = ks := by rfl)
    (hdb : (x == ("__debug__" : Str)) = false := by decide) (he : starEach (e :: es) X.env = (false, eval e X.env) :: starEach es X.env := by rfl)
    (hpl : ((backTo pos (starEach (e :: es) X.env)).any (·.1) || (backToKw pos (keywordEach kws X.env)).any (·.1.isNone)) = false := by rfl) :
    DE X (.Call (.Name x p) (e :: es) kws pos) (dMake C n ks.length sp gD NoX t tk) := by
  obtain ⟨f, fd, ps, g, gV, F, M, hm, hb, hg⟩ := G
  exact d_makeK (E := E0) M F hr gd hgl hm hg pass0 (fun _ _ => GoX.no) hb ha hkw hall hks hdb he hpl
theorem d_mkKV (G : GMk X.prog X.w X.K X.mg X.base k x C n ks gD sp) (hr : Room (k + 1) X.A) (gd : X.A.guards = some []) (hgl : Gl X x) (ha : DA X (e :: es) t) (hkw : DKw X kws tk)
    (hall : (backToKw pos (keywordEach kws X.env)).all (·.1.isSome) = true := by rfl) (hks : (backToKw pos (keywordEach kws X.env)).filterMap (·.1) = ks := by rfl)
    (hdb : (x == ("__debug__" : Str)) = false := by decide) (he : starEach (e :: es) X.env = (false, eval e X.env) :: starEach es X.env := by rfl)
    (hpl : ((backTo pos (starEach (e :: es) X.env)).any (·.1) || (backToKw pos (keywordEach kws X.env)).any (·.1.isNone)) = false := by rfl) :
    DE X (.Call (.Name x p) (e :: es) kws pos) (dMakeV C n ks.length sp gD NoX t tk) := by
  obtain ⟨f, fd, ps, g, gV, F, M, hm, hb, hg⟩ := G
  exact d_makeKV (E := E0) M F hr gd hgl hm hg pass0 (fun _ _ => GoX.no) hb ha hkw hall hks hdb he hpl
end

/-! ### more statements -/
section
variable {X : Cx} {pos : Pos}
/-- o.f as a target -/
def gFld (C : Addr) (fn : Str) (ta : TDE) : TDG := fun d δ h R => ta δ h fun x h1 => ∃ n fs, x = .ref n ∧ h1[n]? = some (.ins C fs) ∧ fs.length < 1000 ∧ R δ (h1.set n (.ins C (putD fn d fs)))
theorem g_fld {o : Expr} {m : Str} {C : Addr} {ta : TDE} (ho : DE X o ta) (c : Cls X.K C) (hn : NoAttr X.K C m)
    (ha : ∀ v, assign (.Attribute o m pos) X.env v = (do
      let ov ← holding [v] (eval o X.env)
      standAt pos.atName
      holding [v, ov] (setAttr ov m v)
      release [v, ov] []) := by intro _; rfl) : DG X (.Attribute o m pos) (gFld C m ta) := by
  refine ⟨fun pins s σ H v u Q J rv ⟨I, d, δ, h, R, sr, hr, rd, q, g⟩ => ?_⟩
  rw [ha]
  have q1 : up X.K ta σ H fun x H1 => ∃ a dx fs, x = .ref a ∧ H1 a = some (.ins C dx fs) ∧ fs.length < 1000 ∧ Q σ (upd H1 a (.ins C dx (putF m v fs))) := by
    refine ⟨I, δ, h, _, sr, hr, q, fun x h1 I1 H1 w ⟨n, fs, e1, e2, e3, q2⟩ s1 hr1 rx => ?_⟩
    subst e1
    obtain ⟨a, rfl, qa⟩ := rx.refv
    obtain ⟨dx, ws, q3, hk, r3⟩ := hr1.ob n a _ qa e2
    have hl : ws.length = fs.length := by
      have := congrArg List.length hk
      simpa using this
    refine ⟨a, dx, ws, rfl, q3, by rw [hl]; exact e3, ?_⟩
    have m' : a ∈ I1 := List.mem_of_getElem? qa
    have s3 : Stp I1 H1 I1 (upd H1 a (.ins C dx (putF m v ws))) := Stp.put m' ⟨_, q3, trivial⟩
    have pr := putD_rd (f := m) (rd.step s1) hk r3
    exact g δ _ I1 _ σ q2 (s1.trans s3) (hr1.put qa ⟨dx, _, upd_same, pr.1, pr.2.step s3⟩) (sr.step (s1.trans s3))
  refine wpAny_bind (wpAny_holding (thn (ho.run pins s σ H _ J q1) ?_))
  rintro ov s1 ⟨x, H1, J1, rx, a, dx, fs, rfl, ea, l, q2⟩
  obtain rfl : ov = Value.ref a := rx
  refine wpAny_bind (wpAny_standAt (wpAny_bind (wpAny_holding ?_)))
  exact setattr_ok J1 ea c hn l rv fun s3 J3 => wpAny_release ⟨σ, _, J3, q2⟩
/-- t1 = t2 = e -/
def dAsg2 (te : TDE) (g1 g2 : TDG) : TDS := fun E δ h => te δ h fun x h1 => g1 x δ h1 fun δ2 h2 => g2 x δ2 h2 E.nx
/-- name = [..], the name a local -/
theorem s_setLc {i : Nat} {y : Str} {py : Pos} {elt tg iter : Expr} {ifs : List Expr} {scope : Scope} {own : List (Str × Nat)} {spos : Pos} {si : TDI} {c : CTg} {tt : TDT} {te : TDE} (hc : X.calm = true) (hN : X.N.Nodup) (hy : X.N[i]? = some y) (hyl : X.env.scope.names.lookup y = some .local)
    (hsw : swapsWith (.ListComp elt [⟨tg, iter, ifs, 0⟩] scope pos) (some (.Name y py)) spos.line X.env = pure true) (hi : DI X tg iter si) (ok : BlkOk X.N X.env.scope scope own) (hv : ∀ i ∈ c.slots, i ∈ own.map (·.2))
    (hg : ∀ (s : Shared) (H : Hp) (C : Addr) (cl : List (Str × Addr)) (fp : List Addr), PG (X.blk s H scope (compEnvC scope cl C X.env) fp) tg (c.g X.K)) (ht : ∀ (s : Shared) (H : Hp) (C : Addr) (cl : List (Str × Addr)) (fp : List Addr), DTs (X.blk s H scope (compEnvC scope cl C X.env) fp) ifs tt)
    (he : ∀ (s : Shared) (H : Hp) (C : Addr) (cl : List (Str × Addr)) (fp : List Addr), DE (X.blk s H scope (compEnvC scope cl C X.env) fp) elt te) (hs : ∀ x, foldedSetIterable iter X.env x = pure x := by intro _; rfl) :
    DSt X (.Assign [.Name y py] (.ListComp elt [⟨tg, iter, ifs, 0⟩] scope pos) spos) (dAsg (dLc si c tt te (own.map (·.2))) (gN i)) :=
  PS.imp (ps_setLc hc hN hy hyl hsw hi ok hg ht he hs) fun E σ H ⟨I, δ, h, ED, sr, hr, q, g⟩ =>
    lc_up (Q := fun v H1 => E.nx (σ.set i (some v)) H1) hv fin_val ⟨I, δ, h, fun d h1 => ED.nx (δ.set i (some d)) h1, sr, hr, q, fun d h1 I1 H1 v q1 s1 hr1 rd => g.nx _ h1 I1 H1 _ q1 s1 hr1 ((sr.step s1).set i rd)⟩
theorem s_setLcN {i : Nat} {y : Str} {py : Pos} {elt tg iter : Expr} {ifs : List Expr} {scope : Scope} {own : List (Str × Nat)} {spos : Pos} {si : TDI} {c : CTg} {tt : TDT} {te : TDE} (hc : X.calm = true) (hN : X.N.Nodup) (hy : X.N[i]? = some y) (hyl : X.env.scope.names.lookup y = some .local)
    (hsw : swapsWith (.ListComp elt [⟨tg, iter, ifs, 0⟩] scope pos) (some (.Name y py)) spos.line X.env = pure true) (hi : DI X tg iter si) (ok : BlkOk X.N X.env.scope scope own) (hv : ∀ i ∈ c.slots, i ∈ own.map (·.2))
    (hg : ∀ (s : Shared) (H : Hp) (C : Addr) (cl : List (Str × Addr)) (fp : List Addr), PG (X.blk s H scope (compEnvC scope cl C X.env) fp) tg (c.g X.K)) (ht : ∀ (s : Shared) (H : Hp) (C : Addr) (cl : List (Str × Addr)) (fp : List Addr), DTs (X.blk s H scope (compEnvC scope cl C X.env) fp) ifs tt)
    (he : ∀ (s : Shared) (H : Hp) (C : Addr) (cl : List (Str × Addr)) (fp : List Addr), DE (X.blk s H scope (compEnvC scope cl C X.env) fp) elt te) (hs : ∀ x, foldedSetIterable iter X.env x = pure x := by intro _; rfl) :
    DSt X (.Assign [.Name y py] (.ListComp elt [⟨tg, iter, ifs, 0⟩] scope pos) spos) (dAsg (dLcN si c tt te (own.map (·.2))) (gN i)) :=
  PS.imp (ps_setLc hc hN hy hyl hsw hi ok hg ht he hs) fun E σ H ⟨I, δ, h, ED, sr, hr, q, g⟩ =>
    lc_up (Q := fun v H1 => E.nx (σ.set i (some v)) H1) hv fin_new ⟨I, δ, h, fun d h1 => ED.nx (δ.set i (some d)) h1, sr, hr, q, fun d h1 I1 H1 v q1 s1 hr1 rd => g.nx _ h1 I1 H1 _ q1 s1 hr1 ((sr.step s1).set i rd)⟩
theorem s_asg2 {t1 t2 e : Expr} {te : TDE} {g1 g2 : TDG} (he : DE X e te) (h1 : DG X t1 g1) (h2 : DG X t2 g2) (ha : (assignEach [t1, t2] X.env).map (·.2) = [assign t1 X.env, assign t2 X.env] := by rfl) (hw : swappedStores [t1, t2] e X.env = pure none := by rfl) :
    DSt X (.Assign [t1, t2] e pos) (dAsg2 te g1 g2) :=
  PS.imp (ps_asg2 he h1 h2 ha hw) fun E σ H ⟨I, δ, h, ED, sr, hr, q, g⟩ =>
    ⟨I, δ, h, _, sr, hr, q, fun d h1 I1 H1 v q1 s1 hr1 rd => ⟨I1, d, δ, h1, _, sr.step s1, hr1, rd, q1, fun δ2 h2 I2 H2 σ2 q2 s2 hr2 sr2 => ⟨I2, d, δ2, h2, ED.nx, sr2, hr2, rd.step s2, q2, g.nx.after (s1.trans s2)⟩⟩⟩
end
/-! ### what Python's names hold -/
theorem b_len : bootBuiltins "len" = some (.builtin "len") := by decide +kernel
theorem b_min : bootBuiltins "min" = some (.builtin "min") := by decide +kernel
theorem b_max : bootBuiltins "max" = some (.builtin "max") := by decide +kernel
theorem b_repr : bootBuiltins "repr" = some (.builtin "repr") := by decide +kernel
theorem b_sum : bootBuiltins "sum" = some (.builtin "sum") := by decide +kernel
theorem b_all : bootBuiltins "all" = some (.builtin "all") := by decide +kernel
theorem b_any : bootBuiltins "any" = some (.builtin "any") := by decide +kernel
theorem b_sorted : bootBuiltins "sorted" = some (.builtin "sorted") := by decide +kernel
theorem b_isinstance : bootBuiltins "isinstance" = some (.builtin "isinstance") := by decide +kernel
theorem b_int : bootBuiltins "int" = some (.type "int") := by decide +kernel
theorem b_bool : bootBuiltins "bool" = some (.type "bool") := by decide +kernel
theorem b_str : bootBuiltins "str" = some (.type "str") := by decide +kernel
theorem b_tuple : bootBuiltins "tuple" = some (.type "tuple") := by decide +kernel
theorem b_list : bootBuiltins "list" = some (.type "list") := by decide +kernel
theorem b_dict : bootBuiltins "dict" = some (.type "dict") := by decide +kernel
end FL
end
section
/-! Readings made plain. -/
namespace FL
open PySem L2

theorem at0 {a : D} {r : List D} : atI (a :: r) 0 = some a := by
  unfold atI ixN
  rw [if_pos (Int.le_refl 0), if_pos (by simp only [List.length_cons]; omega)]
  rfl
theorem at1 {a b : D} {r : List D} : atI (a :: b :: r) 1 = some b := by
  unfold atI ixN
  rw [if_pos (by omega), if_pos (by simp only [List.length_cons]; omega)]
  rfl
theorem at2 {a b c : D} {r : List D} : atI (a :: b :: c :: r) 2 = some c := by
  unfold atI ixN
  rw [if_pos (by omega), if_pos (by simp only [List.length_cons]; omega)]
  rfl
theorem at3 {a b c d : D} {r : List D} : atI (a :: b :: c :: d :: r) 3 = some d := by
  unfold atI ixN
  rw [if_pos (by omega), if_pos (by simp only [List.length_cons]; omega)]
  rfl
theorem at4 {a b c d e : D} {r : List D} : atI (a :: b :: c :: d :: e :: r) 4 = some e := by
  unfold atI ixN
  rw [if_pos (by omega), if_pos (by simp only [List.length_cons]; omega)]
  rfl
theorem ix_in {n : Nat} {i : Int} (h0 : 0 ≤ i) (h1 : i < n) : ixN n i = some i.toNat := by
  unfold ixN
  rw [if_pos h0, if_pos h1]
/-- an index within -/
theorem at_in {ds : List D} {i : Int} (h0 : 0 ≤ i) (h1 : i < ds.length) : ∃ d, atI ds i = some d ∧ d ∈ ds := by
  unfold atI
  rw [ix_in h0 h1]
  have hl : i.toNat < ds.length := by omega
  exact ⟨ds[i.toNat], List.getElem?_eq_getElem hl, List.getElem_mem hl⟩
theorem ix0 {n : Nat} : ixN (n + 1) 0 = some 0 := ix_in (Int.le_refl 0) (by omega)
theorem ix1 {n : Nat} : ixN (n + 2) 1 = some 1 := ix_in (by omega) (by omega)
theorem ix2 {n : Nat} : ixN (n + 3) 2 = some 2 := ix_in (by omega) (by omega)
theorem mulR {i j : Int} (h : -(2 ^ 64) < j ∧ j < 2 ^ 64) : MulOk i j := Or.inl (Or.inr h)
theorem mulL {i j : Int} (h : -(2 ^ 64) < i ∧ i < 2 ^ 64) : MulOk i j := Or.inl (Or.inl h)
theorem divOk {i j : Int} (h0 : 0 < j) (h1 : j < 2 ^ 64) : CDivW i j := by
  refine ⟨h0, ?_⟩
  have h2 : j.natAbs < 2 ^ 64 := by omega
  have : j.natAbs.log2 < 64 := by
    by_cases z : j.natAbs = 0
    · rw [z]
      decide
    · exact (Nat.log2_lt z).mpr h2
  omega
theorem mod_range {x w : Int} (h : 0 < w) : 0 ≤ x % w ∧ x % w < w := ⟨Int.emod_nonneg x (by omega), Int.emod_lt_of_pos x h⟩

/-! ### steps, from the outside -/
section
variable {E : DEnds} {δ : DS} {h : OS} {R : DK} {t u : TDS} {te ta tb tc : TDE} {tt tu : TDT} {f f' : F2} {g g2 : TDG} {td td2 : TDA} {d : D} {i n : Nat} {RB : Bool → OS → Prop} {RA : List D → OS → Prop} {RN : DS → OS → Prop}
theorem r_seq (q : t { E with nx := u E } δ h) : dSeq t u E δ h := q
theorem r_next (q : E.nx δ h) : dNext E δ h := q
theorem r_asg (q : te δ h fun x h1 => g x δ h1 E.nx) : dAsg te g E δ h := q
theorem r_asg2 (q : te δ h fun x h1 => g x δ h1 fun δ2 h2 => g2 x δ2 h2 E.nx) : dAsg2 te g g2 E δ h := q
theorem r_gN (q : RN (δ.set i (some d)) h) : gN i d δ h RN := q
theorem r_gT {ts : TDGs} {ds : List D} (hl : ds.length = n) (q : ts ds δ h RN) : gT n ts (.tup ds) δ h RN := ⟨ds, rfl, hl, q⟩
theorem r_gsNil (q : RN δ h) : gsNil [] δ h RN := ⟨rfl, q⟩
theorem r_gsCons {tg : TDG} {ts : TDGs} {ds : List D} (q : tg d δ h fun δ' h' => ts ds δ' h' RN) : gsCons tg ts (d :: ds) δ h RN := ⟨d, ds, rfl, q⟩
theorem r_drop (q : te δ h fun _ h1 => E.nx δ h1) : dDrop te E δ h := q
theorem r_ret (q : te δ h E.rt) : dRet te E δ h := q
theorem r_retN (q : E.rt .non h) : dRetN E δ h := q
theorem r_ifS (q : tt δ h fun b h1 => if b = true then t E δ h1 else u E δ h1) : dIfS tt t u E δ h := q
theorem r_par {i j : Nat} (q : td δ h fun ds h1 => ∃ x y, ds = [x, y] ∧ E.nx ((δ.set i (some x)).set j (some y)) h1) : dPar i j td E δ h := q
theorem r_par2 {x y : D} {P : D → D → Prop} (q : P x y) : ∃ a b, [x, y] = [a, b] ∧ P a b := ⟨x, y, rfl, q⟩
theorem r_augI {op : Int → Int → Int} {a : Int} (e : δ[i]? = some (some (.int a))) (q : te δ h fun y h1 => ∃ b, y = .int b ∧ E.nx (δ.set i (some (.int (op a b)))) h1) : dAugI op i te E δ h := ⟨a, e, q⟩
theorem r_isI {x : Int} {P : Int → Prop} (q : P x) : ∃ b, D.int x = .int b ∧ P b := ⟨x, rfl, q⟩
theorem r_dB (q : te δ h fun x h1 => ∃ c, x = .bl c ∧ RB c h1) : dB te δ h RB := q
theorem r_bl {b : Bool} {P : Bool → Prop} (q : P b) : ∃ c, D.bl b = .bl c ∧ P c := ⟨b, rfl, q⟩
theorem r_and (q : tt δ h fun c h1 => if c = true then tu δ h1 RB else RB false h1) : dAnd tt tu δ h RB := q
theorem r_or (q : tt δ h fun c h1 => if c = true then RB true h1 else tu δ h1 RB) : dOr tt tu δ h RB := q
theorem r_not (q : tt δ h fun c h1 => RB (!c) h1) : dNot tt δ h RB := q
theorem r_ite {p : Prop} {_ : Decidable p} {A B : Prop} (h1 : p → A) (h2 : ¬ p → B) : if decide p = true then A else B := by
  by_cases z : p
  · rw [if_pos (decide_eq_true z)]
    exact h1 z
  · rw [if_neg (by rw [decide_eq_true_iff]; exact z)]
    exact h2 z
theorem r_iteN {p : Prop} {_ : Decidable p} {A B : Prop} (h1 : ¬ p → A) (h2 : p → B) : if (!decide p) = true then A else B := by
  by_cases z : p
  · rw [if_neg (by simp [z])]
    exact h2 z
  · rw [if_pos (by simp [z])]
    exact h1 z
theorem r_if {b : Bool} {A B : Prop} (h1 : b = true → A) (h2 : b = false → B) : if b = true then A else B := by
  cases b with
  | true => exact h1 rfl
  | false => exact h2 rfl
theorem r_T {A B : Prop} (q : A) : if true = true then A else B := q
theorem r_F {A B : Prop} (q : B) : if false = true then A else B := q
theorem r_op (q : ta δ h fun x h1 => tb δ h1 fun y h2 => f x y h2 R) : dOp f ta tb δ h R := q
theorem r_un {f1 : F1} (q : ta δ h fun x h1 => f1 x h1 R) : dUn f1 ta δ h R := q
theorem r_var (e : δ[i]? = some (some d)) (q : R d h) : dVar i δ h R := ⟨d, e, q⟩
theorem r_c (q : R d h) : dC d δ h R := q
theorem r_ifE (q : tt δ h fun c h1 => if c = true then ta δ h1 R else tb δ h1 R) : dIf tt ta tb δ h R := q
theorem r_andV (q : ta δ h fun x h1 => ∃ c, x = .bl c ∧ if c = true then tb δ h1 R else R (.bl false) h1) : dAndV ta tb δ h R := q
theorem r_orV (q : ta δ h fun x h1 => ∃ c, x = .bl c ∧ if c = true then R (.bl true) h1 else tb δ h1 R) : dOrV ta tb δ h R := q
theorem r_notV (q : ta δ h fun x h1 => ∃ c, x = .bl c ∧ R (.bl (!c)) h1) : dNotV ta δ h R := q
theorem r_chain (q : ta δ h fun x h1 => tb δ h1 fun y h2 => f x y h2 fun z h3 => ∃ k, z = .bl k ∧ (if k = true then tc δ h3 fun w h4 => f' y w h4 R else R (.bl false) h3)) : dChain f f' ta tb tc δ h R := q
theorem r_nil (q : RA [] h) : dNil δ h RA := q
theorem r_cons (q : te δ h fun x h1 => td δ h1 fun xs h2 => RA (x :: xs) h2) : dCons te td δ h RA := q
theorem r_tup (q : td δ h fun ds h1 => ds.length ≤ sizeLine ∧ R (.tup ds) h1) : dTup td δ h R := q
theorem r_lst (q : td δ h fun ds h1 => ds.length ≤ sizeLine ∧ R (.lst ds) h1) : dLst td δ h R := q
theorem r_lstN (q : td δ h fun ds h1 => ds.length ≤ sizeLine ∧ R (.ref h1.length) (h1 ++ [.lst ds])) : dLstN td δ h R := q
theorem r_cb {fa : FA} (q : td δ h fun ds h1 => fa ds h1 R) : dCB fa td δ h R := q
theorem r_fn {sp : DSp} (q : td δ h fun ds h1 => sp ds h1 R NoX) : dFn sp td δ h R := q
theorem r_fld {C : Addr} {fn : Str} (q : ta δ h fun x h1 => ∃ fs d, insv h1 x = some (C, fs) ∧ fs.lookup fn = some d ∧ R d h1) : dFld C fn ta δ h R := q
theorem r_bm {T : String} {fm : FM} (q : ta δ h fun x h1 => tyD T h1 x ∧ td δ h1 fun ds h2 => fm x ds h2 R) : dBM T fm ta td δ h R := q
theorem r_sl {f3 : D → Option Int → Option Int → OS → DK → Prop} {tl th : TDO} (q : ta δ h fun x h1 => tl δ h1 fun l h2 => th δ h2 fun w h3 => f3 x l w h3 R) : dSl f3 ta tl th δ h R := q
theorem r_noPart {RO' : Option Int → OS → Prop} (q : RO' none h) : dNoPart δ h RO' := q
theorem r_part {RO' : Option Int → OS → Prop} (q : te δ h fun x h1 => ∃ i, x = .int i ∧ RO' (some i) h1) : dPart te δ h RO' := q
/-- by values -/
theorem r_addI {a b : Int} (q : R (.int (a + b)) h) : fAdd (.int a) (.int b) h R := q
theorem r_addS {a b : Str} (c : a.length + b.length ≤ sizeLine) (q : R (.str (a ++ b)) h) : fAdd (.str a) (.str b) h R := ⟨c, q⟩
theorem r_addT {a b : List D} (c : a.length + b.length ≤ sizeLine) (q : R (.tup (a ++ b)) h) : fAdd (.tup a) (.tup b) h R := ⟨c, q⟩
theorem r_addL {a b : List D} (c : a.length + b.length ≤ sizeLine) (q : R (.lst (a ++ b)) h) : fAdd (.lst a) (.lst b) h R := ⟨a, b, rfl, rfl, c, q⟩
theorem r_subI {a b : Int} (q : R (.int (a - b)) h) : fSub (.int a) (.int b) h R := q
theorem r_mulI {a b : Int} (c : MulOk a b) (q : R (.int (a * b)) h) : fMul (.int a) (.int b) h R := ⟨c, q⟩
theorem r_divI {a b : Int} (c : CDivW a b) (q : R (.int (a / b)) h) : fDiv (.int a) (.int b) h R := ⟨c, q⟩
theorem r_modI {a b : Int} (c : 0 < b) (q : R (.int (a % b)) h) : fMod (.int a) (.int b) h R := ⟨c, q⟩
theorem r_powI {a b : Int} (c : CPow a b) (q : R (.int (a ^ b.toNat)) h) : fPow (.int a) (.int b) h R := ⟨c, q⟩
theorem r_negI {a : Int} (q : R (.int (-a)) h) : fNeg (.int a) h R := q
theorem r_ltI {a b : Int} (q : R (.bl (decide (a < b))) h) : fLt (.int a) (.int b) h R := q
theorem r_ltS {a b : Str} (q : R (.bl (decide (a.cps.toList < b.cps.toList))) h) : fLt (.str a) (.str b) h R := q
theorem r_leI {a b : Int} (q : R (.bl (decide (a ≤ b))) h) : fLe (.int a) (.int b) h R := q
theorem r_gtI {a b : Int} (q : R (.bl (decide (b < a))) h) : fGt (.int a) (.int b) h R := q
theorem r_geI {a b : Int} (q : R (.bl (decide (b ≤ a))) h) : fGe (.int a) (.int b) h R := q
theorem r_eqI {a b : Int} (q : R (.bl (decide (a = b))) h) : fEq (.int a) (.int b) h R := q
theorem r_eqS {a b : Str} (q : R (.bl (decide (a = b))) h) : fEq (.str a) (.str b) h R := q
theorem r_eqB {a b : Bool} (q : R (.bl (decide (a = b))) h) : fEq (.bl a) (.bl b) h R := q
theorem r_neI {a b : Int} (q : R (.bl (!decide (a = b))) h) : fNe (.int a) (.int b) h R := q
theorem r_neS {a b : Str} (q : R (.bl (!decide (a = b))) h) : fNe (.str a) (.str b) h R := q
theorem r_neB {a b : Bool} (q : R (.bl (!decide (a = b))) h) : fNe (.bl a) (.bl b) h R := q
theorem r_ixR {ds : List D} {k : Int} (e : h[n]? = some (.lst ds)) (a : atI ds k = some d) (q : R d h) : fIx (.ref n) (.int k) h R := ⟨k, rfl, true, ds, d, by simp only [sqv, e], a, q⟩
theorem r_ixL {ds : List D} {k : Int} (a : atI ds k = some d) (q : R d h) : fIx (.lst ds) (.int k) h R := ⟨k, rfl, true, ds, d, rfl, a, q⟩
theorem r_ixT {ds : List D} {k : Int} (a : atI ds k = some d) (q : R d h) : fIx (.tup ds) (.int k) h R := ⟨k, rfl, false, ds, d, rfl, a, q⟩
theorem r_ixZ {ds : List D} {k : Int} (a : atI ds k = some d) (q : R d h) : fIx (.scr ds) (.int k) h R := ⟨k, rfl, true, ds, d, rfl, a, q⟩
theorem r_setL {RO' : OS → Prop} {ds : List D} {k : Int} {j : Nat} (e : h[n]? = some (.lst ds)) (a : ixN ds.length k = some j) (q : RO' (h.set n (.lst (ds.set j d)))) : fSetL (.ref n) (.int k) d h RO' := ⟨n, k, ds, j, rfl, rfl, e, a, q⟩
theorem r_subL (q : ta δ h fun o h1 => tb δ h1 fun k h2 => fSetL o k d h2 fun h3 => RN δ h3) : gSubL ta tb d δ h RN := q
theorem r_lenZ {ds : List D} (q : R (.int ds.length) h) : fLen [.scr ds] h R := ⟨_, rfl, true, ds, rfl, q⟩
theorem r_lenL {ds : List D} (q : R (.int ds.length) h) : fLen [.lst ds] h R := ⟨_, rfl, true, ds, rfl, q⟩
theorem r_lenT {ds : List D} (q : R (.int ds.length) h) : fLen [.tup ds] h R := ⟨_, rfl, false, ds, rfl, q⟩
theorem r_lenR {ds : List D} (e : h[n]? = some (.lst ds)) (q : R (.int ds.length) h) : fLen [.ref n] h R := ⟨_, rfl, true, ds, by simp only [sqv, e], q⟩
theorem r_lenS {z : Str} (c : z.length ≤ sizeLine) (q : R (.int z.length) h) : fLen [.str z] h R := ⟨_, rfl, c, q⟩
theorem r_min {a b : Int} (q : R (.int (if b < a then b else a)) h) : fMin2 [.int a, .int b] h R := ⟨a, b, rfl, q⟩
theorem r_max {a b : Int} (q : R (.int (if b > a then b else a)) h) : fMax2 [.int a, .int b] h R := ⟨a, b, rfl, q⟩
theorem r_intB {b : Bool} (q : R (.int (if b then 1 else 0)) h) : fInt [.bl b] h R := ⟨_, rfl, q⟩
theorem r_intI {a : Int} (q : R (.int a) h) : fInt [.int a] h R := ⟨_, rfl, q⟩
theorem r_boolI {a : Int} (q : R (.bl (a != 0)) h) : fBool [.int a] h R := ⟨_, rfl, q⟩
theorem r_boolB {b : Bool} (q : R (.bl b) h) : fBool [.bl b] h R := ⟨_, rfl, q⟩
theorem r_tupleL {ds : List D} (q : R (.tup ds) h) : fTuple [.lst ds] h R := ⟨_, true, ds, rfl, rfl, q⟩
theorem r_tupleR {ds : List D} (e : h[n]? = some (.lst ds)) (q : R (.tup ds) h) : fTuple [.ref n] h R := ⟨_, true, ds, rfl, by simp only [sqv, e], q⟩
theorem r_tupleT {ds : List D} (q : R (.tup ds) h) : fTuple [.tup ds] h R := ⟨_, false, ds, rfl, rfl, q⟩
theorem r_append {ds : List D} (e : h[n]? = some (.lst ds)) (c : ds.length < sizeLine) (q : R .non (h.set n (.lst (ds ++ [d])))) : mAppend (.ref n) [d] h R := ⟨n, d, ds, rfl, rfl, e, c, q⟩
theorem r_tyL {P : Prop} {ds : List D} (e : h[n]? = some (.lst ds)) (q : P) : tyD "list" h (.ref n) ∧ P := ⟨Or.inl ⟨rfl, ds, e⟩, q⟩
theorem r_tyS {P : Prop} {z : Str} (q : P) : tyD "str" h (.str z) ∧ P := ⟨rfl, q⟩
theorem r_sz {m : Nat} {P : Prop} (c : m ≤ sizeLine) (q : P) : m ≤ sizeLine ∧ P := ⟨c, q⟩
theorem r_insR {C : Addr} {fn : Str} {fs : List (Str × D)} {P : D → Prop} (e : h[n]? = some (.ins C fs)) (l : fs.lookup fn = some d) (q : P d) : ∃ fs d, insv h (.ref n) = some (C, fs) ∧ fs.lookup fn = some d ∧ P d := ⟨fs, d, by simp only [insv, e], l, q⟩
theorem r_gfld {C : Addr} {fn : Str} {j : Nat} {fs gs : List (Str × D)} (v : δ[j]? = some (some (.ref n))) (e : h[n]? = some (.ins C fs)) (l : fs.length < 1000) (p : putD fn d fs = gs) (q : RN δ (h.set n (.ins C gs))) : gFld C fn (dVar j) d δ h RN :=
  ⟨_, v, n, fs, rfl, e, l, by rw [p]; exact q⟩
theorem r_setF {C : Addr} {fn : Str} (q : tb δ h fun d h1 => gFld C fn ta d δ h1 E.nx) : dSetF C fn ta tb E δ h := q
def augE (C : Addr) (op : Int → Int → Int) (fn : Str) (n : Nat) (a : Int) (Q : OS → Prop) (y : D) (h : OS) : Prop := ∃ j gs, y = .int j ∧ h[n]? = some (.ins C gs) ∧ gs.length < 1000 ∧ Q (h.set n (.ins C (putD fn (.int (op a j)) gs)))
theorem r_augF {C : Addr} {op : Int → Int → Int} {fn : Str} {j : Nat} {fs : List (Str × D)} {a : Int} (v : δ[j]? = some (some (.ref n))) (e : h[n]? = some (.ins C fs)) (l : fs.lookup fn = some (.int a)) (q : tb δ h fun y h2 => augE C op fn n a (E.nx δ) y h2) : dAugF C op fn (dVar j) tb E δ h :=
  ⟨_, v, n, fs, a, rfl, e, l, q⟩
theorem r_augE {C : Addr} {op : Int → Int → Int} {fn : Str} {fs gs : List (Str × D)} {a b : Int} {Q : OS → Prop} (e : h[n]? = some (.ins C fs)) (l : fs.length < 1000) (p : putD fn (.int (op a b)) fs = gs) (q : Q (h.set n (.ins C gs))) : augE C op fn n a Q (.int b) h :=
  ⟨b, fs, rfl, e, l, by rw [p]; exact q⟩
theorem r_make {C : Addr} {m k : Nat} {sp : DSp} {gD : List D → List D → List D} {RE : DX} (q : td δ h fun ds h1 => td2 δ h1 fun es h2 => ds.length = m ∧ es.length = k ∧ sp (gD (.ref h2.length :: ds) es) (h2 ++ [.ins C []]) (fun d h3 => d = .non ∧ R (.ref h2.length) h3) RE) : dMake C m k sp gD RE td td2 δ h R := q
theorem r_makeV {C : Addr} {m k : Nat} {sp : DSp} {gD : List D → List D → List D} {RE : DX} (q : td δ h fun ds h1 => td2 δ h1 fun es h2 => ds.length = m ∧ es.length = k ∧ sp (gD (.ref h2.length :: ds) es) (h2 ++ [.ins C []]) (fun d h3 => d = .non ∧ ∃ h4 o, h3 = h4 ++ [o] ∧ h4.length = h2.length ∧ okOs h4.length h4 ∧ okO h4.length o ∧ R (val o) h4) RE) : dMakeV C m k sp gD RE td td2 δ h R := q
theorem r_for {si : TDI} (q : si δ h fun S h1 => ∃ Pv : Nat → DS → OS → Prop, Pv 0 δ h1 ∧ (∀ i δ h, i ≤ S.items.length → Pv i δ h → S.G h) ∧
  (∀ (i : Nat) d δ h, S.items[i]? = some d → Pv i δ h → g d δ h fun δ2 h2 =>
    t { E with nx := fun δ' h' => ∃ δ3 h3, Drp h1.length δ' h' δ3 h3 ∧ Pv (i + 1) δ3 h3, ct := fun δ' h' => ∃ δ3 h3, Drp h1.length δ' h' δ3 h3 ∧ Pv (i + 1) δ3 h3, bk := E.nx } δ2 h2) ∧
  ∀ δ h, Pv S.items.length δ h → E.nx δ h) : dFor si g t E δ h := q
theorem r_range1 {RS : Src → OS → Prop} (q : te δ h fun x h1 => ∃ j, x = .int j ∧ -(2 ^ 62) ≤ j ∧ j < 2 ^ 62 ∧ RS ⟨(List.range j.toNat).map fun k => .int (k : Nat), fun _ => True⟩ h1) : iRange1 te δ h RS := q
/-- for k in range(j): Pv by the turn -/
theorem for_range1 {j : Int} (h0 : -(2 ^ 62) ≤ j) (h1 : j < 2 ^ 62) (Pv : Nat → DS → OS → Prop) (p0 : Pv 0 δ h)
    (ps : ∀ (k : Nat) δ h', (k : Int) < j → Pv k δ h' → g (.int (k : Nat)) δ h' fun δ2 h2 => t { E with nx := fun δ' h'' => ∃ δ3 h3, Drp h.length δ' h'' δ3 h3 ∧ Pv (k + 1) δ3 h3, ct := fun δ' h'' => ∃ δ3 h3, Drp h.length δ' h'' δ3 h3 ∧ Pv (k + 1) δ3 h3, bk := E.nx } δ2 h2)
    (pd : ∀ δ h', Pv j.toNat δ h' → E.nx δ h') (q : te δ h fun x h1 => x = .int j ∧ h1 = h) (mono : ∀ (R R' : DK), (∀ x h, R x h → R' x h) → te δ h R → te δ h R') : dFor (iRange1 te) g t E δ h := by
  refine mono _ _ ?_ q
  rintro x h' ⟨rfl, rfl⟩
  refine ⟨j, rfl, h0, h1, Pv, p0, fun _ _ _ _ _ => trivial, ?_, ?_⟩
  · intro k d δ h2 e p
    have e' := range_at e
    have hk : k < ((List.range j.toNat).map fun k => D.int (k : Nat)).length := (List.getElem?_eq_some_iff.mp e).1
    rw [List.length_map, List.length_range] at hk
    subst e'
    exact ps k δ h2 (by omega) p
  · intro δ h2 p
    simp only [List.length_map, List.length_range] at p
    exact pd δ h2 p
/-- the same, where the range's end has been reckoned -/
theorem r_rangeP {j : Int} (h0 : -(2 ^ 62) ≤ j) (h1 : j < 2 ^ 62) (Pv : Nat → DS → OS → Prop) (p0 : Pv 0 δ h)
    (ps : ∀ (k : Nat) δ h', (k : Int) < j → Pv k δ h' → g (.int (k : Nat)) δ h' fun δ2 h2 => t { E with nx := fun δ' h'' => ∃ δ3 h3, Drp h.length δ' h'' δ3 h3 ∧ Pv (k + 1) δ3 h3, ct := fun δ' h'' => ∃ δ3 h3, Drp h.length δ' h'' δ3 h3 ∧ Pv (k + 1) δ3 h3, bk := E.nx } δ2 h2)
    (pd : ∀ δ h', Pv j.toNat δ h' → E.nx δ h') : ∃ j', D.int j = .int j' ∧ -(2 ^ 62) ≤ j' ∧ j' < 2 ^ 62 ∧ ∃ Pv : Nat → DS → OS → Prop, Pv 0 δ h ∧ (∀ i δ h, i ≤ (Src.mk ((List.range j'.toNat).map fun k => D.int (k : Nat)) fun _ => True).items.length → Pv i δ h → (Src.mk ((List.range j'.toNat).map fun k => D.int (k : Nat)) fun _ => True).G h) ∧
  (∀ (i : Nat) d δ h2, (Src.mk ((List.range j'.toNat).map fun k => D.int (k : Nat)) fun _ => True).items[i]? = some d → Pv i δ h2 → g d δ h2 fun δ2 h3 =>
    t { E with nx := fun δ' h' => ∃ δ3 h3, Drp h.length δ' h' δ3 h3 ∧ Pv (i + 1) δ3 h3, ct := fun δ' h' => ∃ δ3 h3, Drp h.length δ' h' δ3 h3 ∧ Pv (i + 1) δ3 h3, bk := E.nx } δ2 h3) ∧
  ∀ δ h2, Pv (Src.mk ((List.range j'.toNat).map fun k => D.int (k : Nat)) fun _ => True).items.length δ h2 → E.nx δ h2 := by
  refine ⟨j, rfl, h0, h1, Pv, p0, fun _ _ _ _ _ => trivial, ?_, ?_⟩
  · intro k d δ h2 e p
    have e' := range_at e
    have hk : k < ((List.range j.toNat).map fun k => D.int (k : Nat)).length := (List.getElem?_eq_some_iff.mp e).1
    rw [List.length_map, List.length_range] at hk
    subst e'
    exact ps k δ h2 (by omega) p
  · intro δ h2 p
    simp only [List.length_map, List.length_range] at p
    exact pd δ h2 p
theorem r_mt {C : Addr} {mn : Str} {sp : DSp} (q : ta δ h fun x h1 => ∃ fs, insv h1 x = some (C, fs) ∧ fs.lookup mn = none ∧ td δ h1 fun ds h2 => sp (x :: ds) h2 R NoX) : dMt C mn sp ta td δ h R := q
theorem r_mt1 {C : Addr} {mn : Str} {P : Prop} {fs : List (Str × D)} (e : h[n]? = some (.ins C fs)) (l : fs.lookup mn = none) (q : P) : ∃ fs, insv h (.ref n) = some (C, fs) ∧ fs.lookup mn = none ∧ P := ⟨fs, by simp only [insv, e], l, q⟩
theorem look_set {o o' : O} (e : h[n]? = some o') : (h.set n o)[n]? = some o := List.getElem?_set_self (List.getElem?_eq_some_iff.mp e).1
theorem look_setN {o o' : O} (ne : i ≠ n) (e : h[n]? = some o') : (h.set i o)[n]? = some o' := by
  rw [List.getElem?_set_ne ne]
  exact e
theorem look_app {o : O} {g : OS} (e : h[n]? = some o) : (h ++ g)[n]? = some o := by
  rw [List.getElem?_append_left (List.getElem?_eq_some_iff.mp e).1]
  exact e
theorem set_end {o o' : O} {g : OS} : (h ++ o :: g).set h.length o' = h ++ o' :: g := by
  rw [List.set_append_right _ _ (Nat.le_refl _), Nat.sub_self]
  rfl
theorem look_end {o : O} {g : OS} : (h ++ o :: g)[h.length]? = some o := by
  rw [List.getElem?_append_right (Nat.le_refl _), Nat.sub_self]
  rfl
end
end FL
end
section
/-! len and truth by an own __len__; a text times a number. -/
namespace FL
open PySem PySem.Spec PyProof.Rows L2

/-- a method run one call deeper, as built-ins do -/
theorem run_in1 {X : Cx} {k : Nat} {f a : Addr} {fd : FuncData} {ps : List Str} {sp : DSp} {pins : List (Addr × Obj)} {σ : L2.St} {H : Hp} {s : Shared} {Q : VK} {us : List Value} {vs : List V}
    (F : FnD X.prog X.w X.K X.mg X.base CX0 k f fd ps sp) (hr : Room (k + 1) X.A) (gd : X.A.guards = some []) (hb : Binds X.K fd ps []) (J : Inv X pins σ H s) (r : Vals vs us) (h : upSp X.K sp vs H Q E0) :
    wpAny (model X.prog X.w) X.A.in1 (call (.ref f) us) (EP X pins σ Q) X.xe s := by
  have l := F.len _ _ _ _ h
  have b := hb s us J.kIn (by rw [List.append_nil, ← r.length]; exact l)
  rw [List.append_nil] at b
  have run := F.run X.A.in1 X.stack s H ⟨us, []⟩ us vs Q E0 hr.in1 gd J.env0.in1 b r h
  refine wpAny_call (codeAny_mono run ?_)
  intro z s' hq
  cases z with
  | error e => exact hq.elim
  | ok fl =>
    cases fl with
    | ret u => exact J.after hq
    | next => exact hq.elim
    | brk => exact hq.elim
    | cont => exact hq.elim
def fLenOwn (C : Addr) (sp : DSp) : FA := fun ds h R => ∃ x fs, ds = [x] ∧ insv h x = some (C, fs) ∧ sp [x] h (fun d h' => ∃ n, d = .int n ∧ 0 ≤ n ∧ n < 2 ^ 63 ∧ R (.int n) h') NoX
theorem o_lenOwn {X : Cx} {k : Nat} {C : Addr} {sp : DSp} (G : GMt X.prog X.w X.K X.mg X.base k C "__len__" 0 sp) (hr : Room (k + 1) X.A) (gd : X.A.guards = some []) : DC X (.builtin "len") (fLenOwn C sp) := by
  obtain ⟨f, fd, ps, F, hm, hn, hb⟩ := G
  intro pins s σ H xs us Q J r ⟨I, ds, h, R, hr0, rd, ⟨x, fs, e, e1, hs⟩, go⟩
  subst e
  obtain ⟨v, rfl, rx⟩ := rd.one
  obtain ⟨u, rfl, ru⟩ := vals1 r
  obtain ⟨a, dx, ws, rfl, q2, l1, _⟩ := insv_ok hr0 rx e1
  obtain rfl : u = Value.ref a := ru
  obtain ⟨mA, ob, _⟩ := ins_get J.hok q2
  obtain ⟨od, inst, _⟩ := ob.look
  obtain ⟨m, fr⟩ := J.fr
  refine PySem.W.len_K fr J.ok.mod.kin inst hm.at_ hm.fn ?_
  have q : upSp X.K sp [.ref a] H (fun v H' => ∃ n, v = .int n ∧ 0 ≤ n ∧ n < 2 ^ 63 ∧ Q (.int n) H') E0 := by
    refine ⟨I, [x], h, _, NoX, hr0, .cons rx .nil, hs, ?_, GoX.no⟩
    rintro d h' I' H' v ⟨n, rfl, n0, n1, hR⟩ s1 hr1 rd1
    cases rd1
    exact ⟨n, rfl, n0, n1, go _ h' I' H' _ hR s1 hr1 (.int n)⟩
  refine thn (run_in1 (a := a) (vs := [V.ref a]) F hr gd hb J (.cons rfl .nil) q) ?_
  rintro u s1 ⟨v, H', J1, rv, n, rfl, n0, n1, hQ⟩
  obtain ⟨t, rfl⟩ := rv
  exact ⟨⟨n0, n1⟩, ⟨.int n, H', J1.tok _, ⟨_, rfl⟩, hQ⟩⟩

/-! ### a text times a number -/
def repS (x : Str) (n : Int) : Str := if n < 1 then Str.empty else if (n == 1 || x.length == 0) = true then x else ⟨(List.replicate n.toNat x.cps).foldl (· ++ ·) #[]⟩
theorem foldl_len (a : Array Nat) : ∀ (n : Nat) (b : Array Nat), ((List.replicate n a).foldl (· ++ ·) b).size = b.size + n * a.size
  | 0, b => by simp
  | n + 1, b => by
    rw [List.replicate_succ, List.foldl_cons, foldl_len a n, Array.size_append, Nat.succ_mul]
    omega
theorem repS_len (x : Str) (n : Int) : (repS x n).length = n.toNat * x.length := by
  unfold repS
  by_cases h1 : n < 1
  · rw [if_pos h1]
    have : n.toNat = 0 := by omega
    rw [this, Nat.zero_mul]
    rfl
  · rw [if_neg h1]
    by_cases h2 : (n == 1 || x.length == 0) = true
    · rw [if_pos h2]
      rw [Bool.or_eq_true, beq_iff_eq, beq_iff_eq] at h2
      rcases h2 with z | z
      · subst z
        simp
      · rw [z, Nat.mul_zero]
    · rw [if_neg h2]
      show ((List.replicate n.toNat x.cps).foldl (· ++ ·) #[]).size = _
      rw [foldl_len]
      simp [Str.length]
def fMulS : F2 := fun x y h R => ∃ a n, x = .str a ∧ y = .int n ∧ -(2 ^ 20) ≤ n ∧ n ≤ 2 ^ 20 ∧ n.toNat * a.length ≤ 2 ^ 20 ∧ R (.str (repS a n)) h
theorem o_mulS {X : Cx} : DOp X (binaryOp .Mult) fMulS := by
  intro pins s σ H x y v u Q J rx ry ⟨I, dx, dy, h, R, hr, rdx, rdy, ⟨a, n, e1, e2, n0, n1, hz, hR⟩, go⟩
  subst e1 e2
  cases rdx
  cases rdy
  obtain ⟨t1, rfl⟩ := rx
  obtain ⟨t2, rfl⟩ := ry
  have q : Q (.str (repS a n)) H := go.now hR hr (.str _)
  refine PySem.P.mul_str ?_ ?_ ?_ ?_
  · rw [decide_eq_false (by omega), decide_eq_false (by omega)]
    rfl
  · intro h1 h2 h3
    have hn : 1 ≤ n := by omega
    have hx : (a.length : Int) ≤ 2 ^ 20 := by
      have h5 : 1 ≤ n.toNat := by omega
      have := Nat.mul_le_mul h5 (Nat.le_refl a.length)
      omega
    have h4 : (2 ^ 63 - 1 : Int) / 2 ^ 20 ≤ (2 ^ 63 - 1) / n := by
      rw [Int.le_ediv_iff_mul_le (by omega)]
      have e1 : (2 ^ 63 - 1 : Int) / 2 ^ 20 = 8796093022207 := by decide
      rw [e1]
      omega
    have e2 : (2 ^ 63 - 1 : Int) / 2 ^ 20 = 8796093022207 := by decide
    omega
  · intro h1 h2
    show decide _ = false
    refine decide_eq_false ?_
    rw [Nat.mul_comm]
    have : (sizeLine : Nat) = 2 ^ 24 := rfl
    omega
  · unfold repS at q
    by_cases h1 : n < 1
    · rw [if_pos h1] at q ⊢
      exact ⟨by decide, ⟨V.str _, H, J.tok _, ⟨_, rfl⟩, q⟩⟩
    · rw [if_neg h1] at q ⊢
      by_cases h2 : (n == 1 || a.length == 0) = true
      · rw [if_pos h2] at q ⊢
        exact ⟨V.str _, H, J, ⟨_, rfl⟩, q⟩
      · rw [if_neg h2] at q ⊢
        refine ⟨?_, ⟨V.str _, H, J.tok _, ⟨_, rfl⟩, q⟩⟩
        have e := repS_len a n
        unfold repS at e
        rw [if_neg h1, if_neg h2] at e
        rw [e]
        have : (sizeLine : Nat) = 2 ^ 24 := rfl
        omega
/-! ### what is written out -/
theorem log2_small {i : Int} (h : i.natAbs < 2 ^ 200) : i.natAbs.log2 < 1920 := by
  by_cases z : i.natAbs = 0
  · rw [z]
    decide
  · have : i.natAbs.log2 < 200 := (Nat.log2_lt z).mpr h
    omega
theorem showI {i : Int} (h : i.natAbs < 2 ^ 200) : ShowP (.int i) := by
  have h1 := log2_small h
  refine ⟨?_, rfl, (show (0 : Nat) ≤ 60 by decide), PySem.int_text_fits h1⟩
  simpa [PyData.showable] using h1
theorem showI' {i : Int} (h0 : -(2 ^ 64) ≤ i) (h1 : i ≤ 2 ^ 64) : ShowP (.int i) := showI (by
  have : i.natAbs ≤ 2 ^ 64 := by omega
  exact Nat.lt_of_le_of_lt this (by decide))
theorem r_repr {h : OS} {R : DK} {x : D} {p : PyData} (e : toP (vw h x) = some p) (s : ShowP p) (q : R (.str p.shown) h) : fRepr [x] h R := ⟨x, p, rfl, e, s, q⟩
end FL
end
section
/-! truth by an own __len__. -/
namespace FL
open PySem PySem.Spec PyProof.Rows L2

section
variable {prog : Program} {w : World} {A : Around} {E : Value → Shared → Prop} {s : Shared} {K : Fg} {x C L f : Addr} {h₀ : Heap} {m : Str → Option Value} {ox : Obj} {od : Option Obj}
def LenTruth (Q : Bool → Shared → Prop) (v : Value) (s' : Shared) : Prop := ∃ n t, v = .int n t ∧ 0 ≤ n ∧ n < 2 ^ 63 ∧ ∀ k, Q (n != 0) { s' with toks := k }
theorem truthy_lenK {Q : Bool → Shared → Prop} (F : PyProof.Rows.Fr h₀ L s.heap m) (X₀ : K.In h₀) (I : PySem.W.InstAt s.heap x ox C od) (hb : PySem.W.findIn K (.ref C) "__bool__" = some none)
    (hs : PySem.W.findIn K (.ref C) "__len__" = some (some (.ref f))) (hf : PySem.W.isFn K (.ref f) = true)
    (h : wpAny (model prog w) A.in1 (call (.ref f) [.ref x]) (LenTruth Q) E s) : wpAny (model prog w) A (truthy (.ref x)) Q E s := by
  have X := X₀.keeps F.keep
  have key : wpAny (model prog w) A (runValue (.builtin "len" ⟨[.ref x], []⟩)) (fun r s' => ∃ n t, r = .int n t ∧ Q (n != 0) s') E s := by
    refine wpAny_runValue (codeAny_builtin PySem.entry_len ?_)
    rw [Around.under_plainId PySem.plain_len _]
    unfold Builtin.«len»
    refine wpAny_bind (m := oneArg "len" _) (wpAny_pure ?_)
    refine wpAny_bind (m := callSpecial? (.ref x) (Str.ofString "__len__")) (PySem.W.special_fn X I hs (beq_iff_eq.mp hf) (wpAny_mono h (fun r s' hr => ?_) fun _ _ y => y))
    obtain ⟨n, t, rfl, h0, h1, hq⟩ := hr
    refine wpAny_bind (wpAny_holding (wpAny_pure ?_))
    refine wpAny_bind (wpAny_letGo ?_)
    show wpAny _ _ (if n < 0 then _ else _) _ _ _
    rw [if_neg (by omega)]
    show wpAny _ _ (if n ≥ 2 ^ 63 then _ else _) _ _ _
    rw [if_neg (by omega)]
    exact wpAny_bind (wpAny_mkInt (wpAny_pure ⟨_, _, rfl, hq _⟩))
  have hsp : ∀ {Q' : Option Value → Shared → Prop}, Q' (some (.ref f)) s → wpAny (model prog w) A (specialOf (.ref x) "__len__") Q' E s := fun q => by
    unfold specialOf
    exact wpAny_bind (I.type.here ((PySem.W.looks_findIn X hs).here q))
  unfold truthy
  first
    | refine wpAny_bind (DSub.special_no (name := Str.ofString "__bool__") X I hb ?_)
    | refine wpAny_bind (wpAny_pure (wpAny_bind (DSub.special_no (name := Str.ofString "__bool__") X I hb ?_)))
  first
    | refine wpAny_bind (hsp ?_)
    | refine wpAny_bind (wpAny_pure (wpAny_bind (hsp ?_)))
  first
    | exact wpAny_bind (wpAny_mono key (fun r s' h' => by obtain ⟨n, t, rfl, hq⟩ := h'; exact wpAny_pure hq) fun _ _ e => e)
    | exact wpAny_bind (wpAny_pure (wpAny_bind (wpAny_mono key (fun r s' h' => by obtain ⟨n, t, rfl, hq⟩ := h'; exact wpAny_pure hq) fun _ _ e => e)))
theorem bool_of {v : Value} {Q : Value → Shared → Prop} (h : wpAny (model prog w) A.in1.in1 (truthy v) (fun b s' => Q (.bool b) s') E s) : wpAny (model prog w) A (call (.type "bool") [v]) Q E s := by
  refine callType_newIn (S := fun B R s => wpAny (model prog w) B.in1 (truthy v) (fun b s' => R (.ok (.ret (.bool b))) s') (fun e s' => R (.error e) s') s) F.called_bool F.newNe_bool (F.typeCall_bool_1 v) (F.newCall_bool_1 v) (fun obj => F.args_object_init_2 obj v) F.entry_bool_new ?_ ?_
  · intro B R s h
    obtain ⟨hp, g, d, tk, os⟩ := s
    have f1 := F.conv_sub_bool
    repeat (any_goals (first | assumption | wp_step))
    unfold truthy at h
    exact wpAny_mono h (fun b s' q => wpAny_pure q) fun _ _ e => e
  · refine wpAny_mono h (fun b s' q => ⟨?_, q⟩) fun _ _ e => e
    exact PySem.typeIs_bool _ _
end
/-- a method run somewhere below -/
theorem run_at {X : Cx} {k : Nat} {f a : Addr} {fd : FuncData} {ps : List Str} {sp : DSp} {pins : List (Addr × Obj)} {σ : L2.St} {H : Hp} {s : Shared} {Q : VK} {us : List Value} {vs : List V} {A' : Around}
    (F : FnD X.prog X.w X.K X.mg X.base CX0 k f fd ps sp) (hr : Room k A') (gd : A'.guards = some []) (he : Env0 X.prog X.w X.K X.mg X.base A' X.stack s H) (hb : Binds X.K fd ps []) (J : Inv X pins σ H s) (r : Vals vs us) (h : upSp X.K sp vs H Q E0) :
    wpAny (model X.prog X.w) A' (call (.ref f) us) (EP X pins σ Q) X.xe s := by
  have l := F.len _ _ _ _ h
  have b := hb s us J.kIn (by rw [List.append_nil, ← r.length]; exact l)
  rw [List.append_nil] at b
  have run := F.run A' X.stack s H ⟨us, []⟩ us vs Q E0 hr gd he b r h
  refine wpAny_call (codeAny_mono run ?_)
  intro z s' hq
  cases z with
  | error e => exact hq.elim
  | ok fl =>
    cases fl with
    | ret u => exact J.after hq
    | next => exact hq.elim
    | brk => exact hq.elim
    | cont => exact hq.elim
def fBoolOwn (C : Addr) (sp : DSp) : FA := fun ds h R => ∃ x fs, ds = [x] ∧ insv h x = some (C, fs) ∧ sp [x] h (fun d h' => ∃ n, d = .int n ∧ 0 ≤ n ∧ n < 2 ^ 63 ∧ R (.bl (n != 0)) h') NoX
theorem o_boolOwn {X : Cx} {k : Nat} {C : Addr} {sp : DSp} (G : GMt X.prog X.w X.K X.mg X.base k C "__len__" 0 sp) (nb : NoAttr X.K C "__bool__") (hr : Room (k + 3) X.A) (gd : X.A.guards = some []) : DC X (.type "bool") (fBoolOwn C sp) := by
  obtain ⟨f, fd, ps, F, hm, hn, hb⟩ := G
  intro pins s σ H xs us Q J r ⟨I, ds, h, R, hr0, rd, ⟨x, fs, e, e1, hs⟩, go⟩
  subst e
  obtain ⟨v, rfl, rx⟩ := rd.one
  obtain ⟨u, rfl, ru⟩ := vals1 r
  obtain ⟨a, dx, ws, rfl, q2, l1, _⟩ := insv_ok hr0 rx e1
  obtain rfl : u = Value.ref a := ru
  obtain ⟨mA, ob, _⟩ := ins_get J.hok q2
  obtain ⟨od, inst, _⟩ := ob.look
  obtain ⟨m, fr⟩ := J.fr
  refine bool_of (truthy_lenK fr J.ok.mod.kin inst nb hm.at_ hm.fn ?_)
  have q : upSp X.K sp [.ref a] H (fun v H' => ∃ n, v = .int n ∧ 0 ≤ n ∧ n < 2 ^ 63 ∧ Q (.bl (n != 0)) H') E0 := by
    refine ⟨I, [x], h, _, NoX, hr0, .cons rx .nil, hs, ?_, GoX.no⟩
    rintro d h' I' H' v ⟨n, rfl, n0, n1, hR⟩ s1 hr1 rd1
    cases rd1
    exact ⟨n, rfl, n0, n1, go _ h' I' H' _ hR s1 hr1 (.bl _)⟩
  refine thn (run_at (a := a) (vs := [V.ref a]) F hr.in1.in1.in1 gd J.env0.in1.in1.in1 hb J (.cons rfl .nil) q) ?_
  rintro u s1 ⟨v, H', J1, rv, n, rfl, n0, n1, hQ⟩
  obtain ⟨t, rfl⟩ := rv
  exact ⟨n, t, rfl, n0, n1, fun k => ⟨.bl _, H', J1.tok _, rfl, hQ⟩⟩
end FL
end
section
/-! What may be written out, with a bound. -/
namespace FL
open PySem L2

/-- p is shown by at most n signs, d deep -/
structure Sh (p : PyData) (n d : Nat) : Prop where
  sh : p.showable = true
  nd : p.hasDict = false
  dp : p.depth ≤ d
  sz : p.shown.length ≤ n
structure ShA (ps : List PyData) (n d : Nat) : Prop where
  sh : PyData.showableAll ps = true
  nd : PyData.hasDictAll ps = false
  dp : PyData.depthAll ps ≤ d
  sz : piled (PyData.shownAll ps) ≤ n
theorem Sh.wk {p : PyData} {n d n' d' : Nat} (h : Sh p n d) (hn : n ≤ n') (hd : d ≤ d') : Sh p n' d' := ⟨h.sh, h.nd, Nat.le_trans h.dp hd, Nat.le_trans h.sz hn⟩
theorem ShA.wk {p : List PyData} {n d n' d' : Nat} (h : ShA p n d) (hn : n ≤ n') (hd : d ≤ d') : ShA p n' d' := ⟨h.sh, h.nd, Nat.le_trans h.dp hd, Nat.le_trans h.sz hn⟩
theorem Sh.show {p : PyData} {n d : Nat} (h : Sh p n d) (hn : n ≤ 16777216) (hd : d ≤ 60) : ShowP p := ⟨h.sh, h.nd, Nat.le_trans h.dp hd, Nat.le_trans h.sz (show n ≤ sizeLine from hn)⟩
theorem sh_none : Sh .none 4 0 := ⟨rfl, rfl, Nat.le_refl 0, Nat.le_refl 4⟩
theorem sh_bool {b : Bool} : Sh (.bool b) 5 0 := ⟨rfl, rfl, Nat.le_refl 0, by cases b <;> decide⟩
theorem sh_int {i : Int} (h : i.natAbs < 2 ^ 200) : Sh (.int i) 201 0 := by
  have h1 : i.natAbs.log2 < 200 := by
    by_cases z : i.natAbs = 0
    · rw [z]
      decide
    · exact (Nat.log2_lt z).mpr h
  refine ⟨?_, rfl, Nat.le_refl 0, ?_⟩
  rotate_left
  · have := PySem.int_text_length_le (by decide) h1
    simp only [PyData.shown]
    rw [PySem.ofString_length]
    exact this
  have : i.natAbs.log2 < 1920 := by omega
  simpa [PyData.showable] using this
theorem sh_i {i : Int} (h0 : -(2 ^ 64) ≤ i) (h1 : i ≤ 2 ^ 64) : Sh (.int i) 201 0 := sh_int (by
  have : i.natAbs ≤ 2 ^ 64 := by omega
  exact Nat.lt_of_le_of_lt this (by decide))
theorem sh_str {x : Str} {n : Nat} (hl : x.length ≤ n) (hx : ∀ c ∈ x.cps.toList, c < 16 ^ 8) : Sh (.str x) (10 * n + 2) 0 := by
  refine ⟨rfl, rfl, Nat.le_refl 0, ?_⟩
  have := PySem.StrLaws.reprText_len x hx
  simp only [PyData.shown]
  omega
theorem sha_nil : ShA [] 0 0 := ⟨rfl, rfl, Nat.le_refl 0, Nat.le_refl 0⟩
theorem sha_cons {p : PyData} {ps : List PyData} {n d n' d' : Nat} (h : Sh p n d) (hs : ShA ps n' d') : ShA (p :: ps) (n + 2 + n') (max d d') := by
  refine ⟨?_, ?_, ?_, ?_⟩
  · simp only [PyData.showableAll, h.sh, hs.sh, Bool.and_self]
  · simp only [PyData.hasDictAll, h.nd, hs.nd, Bool.or_self]
  · simp only [PyData.depthAll]
    have := h.dp
    have := hs.dp
    omega
  · simp only [PyData.shownAll, piled_cons]
    have := h.sz
    have := hs.sz
    omega
/-- many alike -/
theorem sha_all {n d : Nat} : ∀ {ps : List PyData}, (∀ p ∈ ps, Sh p n d) → ShA ps (ps.length * (n + 2)) d
  | [], _ => ⟨rfl, rfl, Nat.zero_le _, Nat.zero_le _⟩
  | p :: ps, h => by
    have h1 := sha_cons (h p (List.mem_cons_self ..)) (sha_all fun q hq => h q (List.mem_cons_of_mem _ hq))
    refine h1.wk ?_ (by omega)
    rw [List.length_cons, Nat.succ_mul]
    omega
theorem textFrom_le : ∀ (ts : List Str) (k : Nat) (acc : Str), (textFrom k acc ts).length ≤ acc.length + piled ts
  | [], k, acc => by simp [textFrom, piled_nil]
  | t :: r, k, acc => by
    have := textFrom_le r (k + 1) (acc ++ (if k > 0 then ", " else "" : String) ++ t)
    rw [piled_cons]
    have e : (acc ++ (if k > 0 then ", " else "" : String) ++ t).length ≤ acc.length + 2 + t.length := by
      rw [strLen_append, strLen_append]
      split
      · exact Nat.le_refl _
      · show acc.length + 0 + t.length ≤ _
        omega
    unfold textFrom
    omega
theorem sh_list {ps : List PyData} {n d : Nat} (h : ShA ps n d) : Sh (.list ps) (n + 2) (d + 1) := by
  refine ⟨h.sh, h.nd, ?_, ?_⟩
  · simp only [PyData.depth]
    have := h.dp
    omega
  · simp only [PyData.shown]
    unfold listText
    rw [strLen_append]
    have := textFrom_le (PyData.shownAll ps) 0 "["
    have := h.sz
    have e1 : ((("[" : String) : Str)).length = 1 := rfl
    have e2 : ((("]" : String) : Str)).length = 1 := rfl
    omega
theorem sh_tup {ps : List PyData} {n d : Nat} (h : ShA ps n d) : Sh (.tuple ps) (n + 3) (d + 1) := by
  refine ⟨h.sh, h.nd, ?_, ?_⟩
  · simp only [PyData.depth]
    have := h.dp
    omega
  · simp only [PyData.shown]
    unfold tupleText
    rw [strLen_append, strLen_append]
    have := h.sz
    have e1 : ((("(" : String) : Str)).length = 1 := rfl
    have e2 : (((if (PyData.shownAll ps).length == 1 then ",)" else ")" : String) : Str)).length ≤ 2 := by
      split <;> decide
    by_cases z : PyData.shownAll ps = []
    · have e2' := e2
      rw [z] at e2' this ⊢
      have e3 : (Str.join ", " []).length = 0 := rfl
      omega
    · have := join_length_add _ z
      omega
theorem r_reprS {h : OS} {R : DK} {x : D} {p : PyData} {n d : Nat} (e : toP (vw h x) = some p) (s : Sh p n d) (hn : n ≤ 16777216) (hd : d ≤ 60) (q : R (.str p.shown) h) : fRepr [x] h R := ⟨x, p, rfl, e, s.show hn hd, q⟩
theorem r_nT {A B : Prop} (q : B) : if (!true) = true then A else B := q
theorem r_nF {A B : Prop} (q : A) : if (!false) = true then A else B := q
end FL
end
section
/-! Dicts: keys ints and texts. -/
namespace FL
open PySem PySem.Spec PyProof.Rows L2

/-! ### tables -/
abbrev Qs := List (Key × D)
def valD (qs : Qs) (k : Key) : Option D := (qs.find? fun q => decide (q.1 = k)).map (·.2)
def putQ (qs : Qs) (k : Key) (d : D) : Qs :=
  if (qs.any fun q => decide (q.1 = k)) = true then qs.map (fun q => if q.1 = k then (q.1, d) else q) else qs ++ [(k, d)]
theorem valD_nil {k : Key} : valD [] k = none := rfl
theorem valD_cons {p : Key × D} {qs : Qs} {k : Key} : valD (p :: qs) k = if p.1 = k then some p.2 else valD qs k := by
  unfold valD
  rw [List.find?_cons]
  by_cases z : p.1 = k
  · rw [if_pos z, decide_eq_true z]
    rfl
  · rw [if_neg z, decide_eq_false z]
theorem any_valD (k : Key) : ∀ qs : Qs, (qs.any fun q => decide (q.1 = k)) = (valD qs k).isSome
  | [] => rfl
  | p :: qs => by
    rw [List.any_cons, valD_cons, any_valD k qs]
    by_cases z : p.1 = k
    · rw [decide_eq_true z, if_pos z]
      rfl
    · rw [decide_eq_false z, if_neg z]
      rfl
theorem valD_map (k j : Key) (y : D) : ∀ qs : Qs, valD (qs.map fun q => if q.1 = k then (q.1, y) else q) j = (valD qs j).map fun x => if j = k then y else x
  | [] => rfl
  | p :: qs => by
    rw [List.map_cons, valD_cons, valD_cons, valD_map k j y qs]
    by_cases z : p.1 = k
    · rw [if_pos z]
      by_cases w : p.1 = j
      · rw [if_pos w, if_pos w]
        show some y = some (if j = k then y else p.2)
        rw [if_pos (by rw [← w]; exact z)]
      · rw [if_neg w, if_neg w]
    · rw [if_neg z]
      by_cases w : p.1 = j
      · rw [if_pos w, if_pos w]
        show some p.2 = some (if j = k then y else p.2)
        rw [if_neg (by rw [← w]; exact z)]
      · rw [if_neg w, if_neg w]
theorem valD_snoc (k j : Key) (y : D) : ∀ qs : Qs, valD qs k = none → valD (qs ++ [(k, y)]) j = if j = k then some y else valD qs j
  | [], _ => by
    rw [List.nil_append, valD_cons, valD_nil]
    by_cases z : j = k
    · rw [if_pos z, if_pos z.symm]
    · rw [if_neg z, if_neg fun e => z e.symm]
  | p :: qs, h => by
    rw [valD_cons] at h
    by_cases w : p.1 = k
    · rw [if_pos w] at h
      cases h
    · rw [if_neg w] at h
      rw [List.cons_append, valD_cons, valD_cons, valD_snoc k j y qs h]
      by_cases z : p.1 = j
      · rw [if_pos z, if_pos z, if_neg (by rw [← z]; exact w)]
      · rw [if_neg z, if_neg z]
theorem valD_put (qs : Qs) (k j : Key) (y : D) : valD (putQ qs k y) j = if j = k then some y else valD qs j := by
  unfold putQ
  rw [any_valD]
  cases e : valD qs k with
  | some x =>
    rw [Option.isSome_some, if_pos rfl, valD_map]
    by_cases z : j = k
    · subst z
      rw [e, if_pos rfl, Option.map_some, if_pos rfl]
    · rw [if_neg z]
      cases valD qs j with
      | none => rfl
      | some w =>
        rw [Option.map_some, if_neg z]
  | none =>
    rw [Option.isSome_none, if_neg (by decide), valD_snoc k j y qs e]
theorem putQ_new {qs : Qs} {k : Key} {y : D} (h : valD qs k = none) : putQ qs k y = qs ++ [(k, y)] := by
  unfold putQ
  rw [any_valD, h, Option.isSome_none, if_neg (by decide)]
theorem putQ_keys (qs : Qs) (k : Key) (y : D) : (putQ qs k y).map (·.1) = if (valD qs k).isSome then qs.map (·.1) else qs.map (·.1) ++ [k] := by
  unfold putQ
  rw [any_valD]
  cases e : valD qs k with
  | some x =>
    rw [Option.isSome_some, if_pos rfl, if_pos rfl, List.map_map]
    apply List.map_congr_left
    intro q _
    show (if q.1 = k then (q.1, y) else q).1 = q.1
    split <;> rfl
  | none =>
    rw [Option.isSome_none, if_neg (by decide), if_neg (by decide), List.map_append]
    rfl
theorem putQ_len (qs : Qs) (k : Key) (y : D) : (putQ qs k y).length ≤ qs.length + 1 := by
  unfold putQ
  split
  · rw [List.length_map]
    omega
  · rw [List.length_append]
    exact Nat.le_refl _
theorem valD_mem {qs : Qs} {k : Key} {d : D} (h : valD qs k = some d) : (k, d) ∈ qs := by
  induction qs with
  | nil => cases h
  | cons p qs ih =>
    rw [valD_cons] at h
    by_cases z : p.1 = k
    · rw [if_pos z] at h
      cases h
      subst z
      exact List.mem_cons_self ..
    · rw [if_neg z] at h
      exact List.mem_cons_of_mem _ (ih h)
theorem valD_some {qs : Qs} {k : Key} (h : k ∈ qs.map (·.1)) : ∃ d, valD qs k = some d := by
  induction qs with
  | nil => cases h
  | cons p qs ih =>
    rw [valD_cons]
    by_cases z : p.1 = k
    · rw [if_pos z]
      exact ⟨_, rfl⟩
    · rw [if_neg z]
      rw [List.map_cons, List.mem_cons] at h
      rcases h with e | e
      · exact absurd e.symm z
      · exact ih e
theorem valD_none {qs : Qs} {k : Key} (h : k ∉ qs.map (·.1)) : valD qs k = none := by
  cases e : valD qs k with
  | none => rfl
  | some d => exact absurd (List.mem_map.mpr ⟨_, valD_mem e, rfl⟩) h

/-- the table as it stands -/
structure KQ (K : Fg) (H : Hp) (I : List Addr) (qs : Qs) (kvs : List (Key × V)) : Prop where
  ks : kvs.map (·.1) = qs.map (·.1)
  vs : RDs K H I (qs.map (·.2)) (kvs.map (·.2))
section
variable {K : Fg} {H H' : Hp} {I I' : List Addr} {h : OS}
theorem KQ.len {qs : Qs} {kvs : List (Key × V)} (q : KQ K H I qs kvs) : kvs.length = qs.length := by
  have := congrArg List.length q.ks
  simpa using this
theorem KQ.step {qs : Qs} {kvs : List (Key × V)} (q : KQ K H I qs kvs) (s : Stp I H I' H') : KQ K H' I' qs kvs := ⟨q.ks, q.vs.step s⟩
theorem KQ.uncons {p : Key × D} {qs : Qs} {kvs : List (Key × V)} (q : KQ K H I (p :: qs) kvs) : ∃ v r, kvs = (p.1, v) :: r ∧ RD K H I p.2 v ∧ KQ K H I qs r := by
  cases kvs with
  | nil =>
    have := q.ks
    cases this
  | cons c r =>
    have e1 := q.ks
    rw [List.map_cons, List.map_cons, List.cons.injEq] at e1
    have e2 := q.vs
    rw [List.map_cons, List.map_cons] at e2
    cases e2 with
    | cons a b => exact ⟨c.2, r, by rw [← e1.1], a, e1.2, b⟩
theorem KQ.cons {k : Key} {d : D} {v : V} {qs : Qs} {kvs : List (Key × V)} (a : RD K H I d v) (q : KQ K H I qs kvs) : KQ K H I ((k, d) :: qs) ((k, v) :: kvs) := ⟨by rw [List.map_cons, List.map_cons, q.ks], .cons a q.vs⟩
theorem KQ.nil' {kvs : List (Key × V)} (q : KQ K H I [] kvs) : kvs = [] := by
  cases kvs with
  | nil => rfl
  | cons c r =>
    have := q.ks
    cases this
theorem KQ.val (k : Key) : ∀ {qs : Qs} {kvs : List (Key × V)}, KQ K H I qs kvs → (∀ d, valD qs k = some d → ∃ v, valV kvs k = some v ∧ RD K H I d v) ∧ (valD qs k = none → valV kvs k = none)
  | [], kvs, q => by
    cases q.nil'
    refine ⟨fun d e => ?_, fun _ => rfl⟩
    cases e
  | p :: qs, kvs, q => by
    obtain ⟨v, r, rfl, rv, q1⟩ := q.uncons
    have ih := KQ.val k q1
    rw [valD_cons]
    by_cases z : p.1 = k
    · rw [if_pos z, valV_pos z]
      refine ⟨fun d e => ?_, fun e => by cases e⟩
      cases e
      exact ⟨v, rfl, rv⟩
    · rw [if_neg z, valV_neg z]
      exact ih
theorem KQ.mapv (k : Key) {d : D} {v : V} (rd : RD K H I d v) : ∀ {qs : Qs} {kvs : List (Key × V)}, KQ K H I qs kvs → KQ K H I (qs.map fun q => if q.1 = k then (q.1, d) else q) (kvs.map fun kv => if kv.1 = k then (kv.1, v) else kv)
  | [], kvs, q => by
    cases q.nil'
    exact ⟨rfl, .nil⟩
  | p :: qs, kvs, q => by
    obtain ⟨w, r, rfl, rv, q1⟩ := q.uncons
    have ih := KQ.mapv k rd q1
    rw [List.map_cons, List.map_cons]
    by_cases z : p.1 = k
    · rw [if_pos z, if_pos z]
      exact ih.cons rd
    · rw [if_neg z, if_neg z]
      exact KQ.cons (k := p.1) (d := p.2) rv ih
theorem KQ.app {qs : Qs} {kvs : List (Key × V)} {k : Key} {d : D} {v : V} (q : KQ K H I qs kvs) (rd : RD K H I d v) : KQ K H I (qs ++ [(k, d)]) (kvs ++ [(k, v)]) := by
  refine ⟨?_, ?_⟩
  · rw [List.map_append, List.map_append, q.ks]
    rfl
  · rw [List.map_append, List.map_append]
    exact q.vs.append (.cons rd .nil)
theorem KQ.any (k : Key) {qs : Qs} {kvs : List (Key × V)} (q : KQ K H I qs kvs) : (kvs.any fun kv => decide (kv.1 = k)) = qs.any fun q => decide (q.1 = k) := by
  have e : ∀ {α : Type} (l : List (Key × α)), (l.any fun x => decide (x.1 = k)) = ((l.map (·.1)).any fun x => decide (x = k)) := fun l => by
    rw [List.any_map]
    rfl
  rw [e, e, q.ks]
theorem KQ.put {qs : Qs} {kvs : List (Key × V)} {k : Key} {d : D} {v : V} (q : KQ K H I qs kvs) (rd : RD K H I d v) : KQ K H I (putQ qs k d) (putK kvs k v) := by
  unfold putQ putK
  rw [q.any k]
  split
  · exact q.mapv k rd
  · exact q.app rd
/-- a dict, ours or a value -/
def dcv (h : OS) : D → Option Qs
  | .ref n => match h[n]? with
    | some (.dct qs) => some qs
    | some (.fdc qs) => some qs
    | _ => none
  | .dct ks ds => if ks.length = ds.length then some (ks.zip ds) else none
  | _ => none
theorem dcv_ok {d : D} {v : V} {qs : Qs} (hr : HR K I h H) (r : RD K H I d v) (e : dcv h d = some qs) : ∃ p kvs, v = .ref p ∧ Rd H p (.dK kvs) ∧ KQ K H I qs kvs := by
  cases r with
  | ref q =>
    rename_i i a
    simp only [dcv] at e
    split at e
    · rename_i qs' h1
      cases e
      obtain ⟨kvs, e1, e2, e3⟩ := hr.ob i a _ q h1
      exact ⟨a, kvs, rfl, Or.inl e1, e2, e3⟩
    · rename_i qs' h1
      cases e
      obtain ⟨kvs, e1, e2, e3⟩ := hr.ob i a _ q h1
      exact ⟨a, kvs, rfl, Or.inr e1, e2, e3⟩
    · cases e
  | dct h1 n hk r =>
    rename_i p kvs ks ds
    simp only [dcv] at e
    split at e
    · rename_i hl
      cases e
      refine ⟨p, kvs, rfl, h1, ?_, ?_⟩
      · rw [hk, List.map_fst_zip (Nat.le_of_eq hl)]
      · rw [List.map_snd_zip (Nat.le_of_eq hl.symm)]
        exact r
    · cases e
  | _ => cases e
def keyD : D → Option Key
  | .int i => some (Sum.inl i)
  | .str x => some (Sum.inr x)
  | _ => none
theorem keyD_ok {d : D} {v : V} {k : Key} (r : RD K H I d v) (e : keyD d = some k) : v = kV k := by
  cases r <;> simp only [keyD] at e <;> cases e <;> rfl
end

/-! ### d[k], k in d, d.get(k, x) -/
theorem u1 {n : Nat} (h : n + 64 < cLine) : n + 1 < cLine := by omega
def fDGet : F2 := fun x y h R => ∃ qs k d, dcv h x = some qs ∧ keyD y = some k ∧ valD qs k = some d ∧ R d h
def fDIn (b : Bool) : F2 := fun y x h R => ∃ qs, dcv h x = some qs ∧ ((∃ k, keyD y = some k ∧ R (.bl ((valD qs k).isSome == b)) h) ∨ (y = .non ∧ R (.bl (false == b)) h))
def dDGet2 (td ty tx : TDE) : TDE := fun δ h R => td δ h fun x h1 => (∃ qs, dcv h1 x = some qs) ∧ ty δ h1 fun y h2 => tx δ h2 fun z h3 => ∃ qs, dcv h3 x = some qs ∧ ((∃ k, keyD y = some k ∧ R ((valD qs k).getD z) h3) ∨ (y = .non ∧ R z h3))
section
variable {X : Cx} {o i e f value : Expr} {pos pos' apos cpos : Pos} {td ty tx tv : TDE}
theorem d_dget (hu : X.A.units + 64 < cLine) (ho : DE X o td) (hi : DE X i ty) (hs : NoSl i := by exact fun _ _ => rfl) : DE X (.Subscript o i pos) (dOp fDGet td ty) := by
  refine PE.imp (pe_dget (u1 hu) ho hi hs) fun σ H Q ⟨I, δ, h, R, sr, hr, q, g⟩ => ?_
  refine ⟨I, δ, h, _, sr, hr, q, fun dx h1 I1 H1 x q1 s1 hr1 rx => ?_⟩
  refine ⟨I1, δ, h1, _, sr.step s1, hr1, q1, fun dy h2 I2 H2 y ⟨qs, k, d, e1, e2, e3, hR⟩ s2 hr2 ry => ?_⟩
  obtain ⟨p, kvs, rfl, hp, kq⟩ := dcv_ok hr2 (rx.step s2) e1
  obtain rfl := keyD_ok ry e2
  obtain ⟨v, ev, rv⟩ := (kq.val k).1 d e3
  exact ⟨p, v, rfl, Or.inl ⟨_, k, hp, rfl, ev.symm⟩, g _ _ _ _ _ hR (s1.trans s2) hr2 rv⟩
theorem dc_in (hu : X.A.units + 64 < cLine) (hi : DE X i ty) (ho : DE X o td) : PC X .In i o (up X.K (dOp (fDIn true) ty td)) := by
  refine ⟨fun pins s σ H Q J ⟨I, δ, h, R, sr, hr, q, g⟩ => (pc_dinN (u1 hu) hi ho).run pins s σ H Q J ?_⟩
  refine ⟨I, δ, h, _, sr, hr, q, fun dy h1 I1 H1 y q1 s1 hr1 ry => ?_⟩
  refine ⟨I1, δ, h1, _, sr.step s1, hr1, q1, fun dx h2 I2 H2 x ⟨qs, e1, q2⟩ s2 hr2 rx => ?_⟩
  obtain ⟨p, kvs, rfl, hp, kq⟩ := dcv_ok hr2 rx e1
  rcases q2 with ⟨k, e2, hR⟩ | ⟨e2, hR⟩
  · obtain rfl := keyD_ok (ry.step s2) e2
    have e3 : (valV kvs k).isSome = ((valD qs k).isSome == true) := by
      cases e : valD qs k with
      | none =>
        rw [(kq.val k).2 e]
        rfl
      | some d =>
        obtain ⟨v, ev, _⟩ := (kq.val k).1 d e
        rw [ev]
        rfl
    exact Or.inl ⟨p, _, rfl, Or.inl ⟨_, k, hp, rfl, rfl⟩, g _ _ _ _ _ hR (s1.trans s2) hr2 (by rw [e3]; exact .bl _)⟩
  · subst e2
    cases ry
    exact Or.inr ⟨p, kvs, rfl, rfl, hp, g _ _ _ _ _ hR (s1.trans s2) hr2 (.bl _)⟩
theorem dc_notin (hu : X.A.units + 64 < cLine) (hi : DE X i ty) (ho : DE X o td) : PC X .NotIn i o (up X.K (dOp (fDIn false) ty td)) := by
  refine ⟨fun pins s σ H Q J ⟨I, δ, h, R, sr, hr, q, g⟩ => (pc_dnotinN (u1 hu) hi ho).run pins s σ H Q J ?_⟩
  refine ⟨I, δ, h, _, sr, hr, q, fun dy h1 I1 H1 y q1 s1 hr1 ry => ?_⟩
  refine ⟨I1, δ, h1, _, sr.step s1, hr1, q1, fun dx h2 I2 H2 x ⟨qs, e1, q2⟩ s2 hr2 rx => ?_⟩
  obtain ⟨p, kvs, rfl, hp, kq⟩ := dcv_ok hr2 rx e1
  rcases q2 with ⟨k, e2, hR⟩ | ⟨e2, hR⟩
  · obtain rfl := keyD_ok (ry.step s2) e2
    have e3 : (!(valV kvs k).isSome) = ((valD qs k).isSome == false) := by
      cases e : valD qs k with
      | none =>
        rw [(kq.val k).2 e]
        rfl
      | some d =>
        obtain ⟨v, ev, _⟩ := (kq.val k).1 d e
        rw [ev]
        rfl
    exact Or.inl ⟨p, _, rfl, Or.inl ⟨_, k, hp, rfl, rfl⟩, g _ _ _ _ _ hR (s1.trans s2) hr2 (by rw [e3]; exact .bl _)⟩
  · subst e2
    cases ry
    exact Or.inr ⟨p, kvs, rfl, rfl, hp, g _ _ _ _ _ hR (s1.trans s2) hr2 (.bl _)⟩
theorem d_din (hu : X.A.units + 64 < cLine) (hi : DE X i ty) (ho : DE X o td) (h1 : behindInMarks .In o = false := by rfl) : DE X (.Compare i [.In] [o] pos) (dOp (fDIn true) ty td) := pe_cmp (dc_in hu hi ho) h1
theorem d_dnotin (hu : X.A.units + 64 < cLine) (hi : DE X i ty) (ho : DE X o td) (h1 : behindInMarks .NotIn o = false := by rfl) : DE X (.Compare i [.NotIn] [o] pos) (dOp (fDIn false) ty td) := pe_cmp (dc_notin hu hi ho) h1
theorem t_din (hu : X.A.units + 64 < cLine) (hi : DE X i ty) (ho : DE X o td) (h1 : behindInMarks .In o = false := by rfl) : DT X (.Compare i [.In] [o] pos) (dB (dOp (fDIn true) ty td)) := PT.imp (pt_cmp (dc_in hu hi ho) h1) fun _ _ _ => up_b
theorem t_dnotin (hu : X.A.units + 64 < cLine) (hi : DE X i ty) (ho : DE X o td) (h1 : behindInMarks .NotIn o = false := by rfl) : DT X (.Compare i [.NotIn] [o] pos) (dB (dOp (fDIn false) ty td)) := PT.imp (pt_cmp (dc_notin hu hi ho) h1) fun _ _ _ => up_b
theorem get_none {pins : List (Addr × Obj)} {σ : L2.St} {H : Hp} {s : Shared} {a : Addr} {kvs : List (Key × V)} {A : Around} {E : Value → Shared → Prop} {r : Value} {Q : Value → Shared → Prop} (J : Inv X pins σ H s) (e : Rd H a (.dK kvs)) (h : ∀ s', Inv X pins σ H s' → Q r s') :
    wpAny (model X.prog X.w) A (call (.builtin "dict.get") [.ref a, .none, r]) Q E s := by
  obtain ⟨z, hd, vs, rel, dd⟩ := dk_rd J.hok e
  obtain ⟨f, hm, hf⟩ := none_map dd
  refine call_meetsIn PySem.F.slot_dict_get dd.typeIs PySem.F.entry_dict_get (PySem.F.args_dict_get_3 _ _ _) (meets_dict_get_default (noneKind X.prog X.w) a (k := none) rfl hd r) ⟨_, hm, ?_⟩
  rw [hf]
  exact h _ (J.tok _)
theorem d_dget2 (hu : X.A.units + 64 < cLine) (ho : DE X o td) (he : DE X e ty) (hf : DE X f tx) (m : M2 X o "get" apos e f cpos := by exact ⟨rfl, rfl, rfl, rfl⟩) : DE X (.Call (.Attribute o "get" apos) [e, f] [] cpos) (dDGet2 td ty tx) := by
  refine ⟨fun pins s σ H Q J ⟨I, δ, h, R, sr, hr, q, g⟩ => ?_⟩
  refine wpAny_Call_method m.base m.few m.line PySem.F.plainAttrs_dict PySem.F.slot_dict_get PySem.F.type_dict_get (thn (ho.run pins s σ H (fun x H1 => ∃ I1 h1 dx, Stp I H I1 H1 ∧ HR X.K I1 h1 H1 ∧ RD X.K H1 I1 dx x ∧ ((∃ qs, dcv h1 dx = some qs) ∧ ty δ h1 fun y h2 => tx δ h2 fun z h3 => ∃ qs, dcv h3 dx = some qs ∧ ((∃ k, keyD y = some k ∧ R ((valD qs k).getD z) h3) ∨ (y = .non ∧ R z h3)))) J ⟨I, δ, h, _, sr, hr, q, fun dx h1 I1 H1 x q1 s1 hr1 rx => ⟨I1, h1, dx, s1, hr1, rx, q1⟩⟩) ?_)
  rintro u s1 ⟨x, H1, J1, rx, I1, h1, dx, st1, hr1, rdx, ⟨qs1, e1⟩, q1⟩
  obtain ⟨a, kvs, rfl, ha, kq⟩ := dcv_ok hr1 rdx e1
  obtain rfl : u = Value.ref a := rx
  obtain ⟨t1, t2, _⟩ := isD_at J1 (Or.inl ⟨kvs, ha⟩)
  refine ⟨t1, t2, ?_⟩
  rw [m.trees]
  refine Calls.callWith_builtin rfl (Calls.evalArgs_plain (Calls.spliced_cons (thn (he.run pins s1 σ H1 (fun y H2 => ∃ I2 h2 dy, Stp I1 H1 I2 H2 ∧ HR X.K I2 h2 H2 ∧ RD X.K H2 I2 dy y ∧ tx δ h2 fun z h3 => ∃ qs, dcv h3 dx = some qs ∧ ((∃ k, keyD dy = some k ∧ R ((valD qs k).getD z) h3) ∨ (dy = .non ∧ R z h3))) J1
    ⟨I1, δ, h1, _, sr.step st1, hr1, q1, fun dy h2 I2 H2 y q2 s2 hr2 ry => ⟨I2, h2, dy, s2, hr2, ry, q2⟩⟩) ?_)))
  rintro iv s2 ⟨y, H2, J2, ry, I2, h2, dy, st2, hr2, rdy, q2⟩
  refine Calls.spliced_cons (thn (hf.run pins s2 σ H2 (fun z H3 => ∃ I3 h3 dz, Stp I2 H2 I3 H3 ∧ HR X.K I3 h3 H3 ∧ RD X.K H3 I3 dz z ∧ ∃ qs, dcv h3 dx = some qs ∧ ((∃ k, keyD dy = some k ∧ R ((valD qs k).getD dz) h3) ∨ (dy = .non ∧ R dz h3))) J2
    ⟨I2, δ, h2, _, (sr.step st1).step st2, hr2, q2, fun dz h3 I3 H3 z q3 s3 hr3 rz => ⟨I3, h3, dz, s3, hr3, rz, q3⟩⟩) ?_)
  rintro fv s3 ⟨z, H3, J3, rz, I3, h3, dz, st3, hr3, rdz, qs, e3, q3⟩
  refine Calls.spliced_nil ?_
  have st := st1.trans (st2.trans st3)
  obtain ⟨a', kvs', e4, ha', kq'⟩ := dcv_ok hr3 (rdx.step (st2.trans st3)) e3
  cases e4
  rcases q3 with ⟨k, e5, hR⟩ | ⟨e5, hR⟩
  · obtain rfl := keyD_ok (rdy.step st3) e5
    refine d_get2 (u1 hu) J3 (Or.inl ⟨_, k, ha', rfl, rfl⟩) ry rz fun w' s4 J4 rw' => ⟨_, H3, J4, rw', g _ _ _ _ _ hR st hr3 ?_⟩
    cases e : valD qs k with
    | none =>
      rw [(kq'.val k).2 e]
      exact rdz
    | some d =>
      obtain ⟨v, ev, rv⟩ := (kq'.val k).1 d e
      rw [ev]
      exact rv
  · subst e5
    cases rdy
    obtain rfl : iv = Value.none := ry
    exact get_none J3 ha' fun s4 J4 => ⟨_, H3, J4, rz, g _ _ _ _ _ hR st hr3 rdz⟩
/-! ### d[k] = v, {} -/
def dDPut (td ty tv : TDE) : TDS := fun E δ h => tv δ h fun d h1 => td δ h1 fun x h2 => ty δ h2 fun y h3 => ∃ n qs k, x = .ref n ∧ h3[n]? = some (.dct qs) ∧ keyD y = some k ∧ qs.length < sizeLine ∧ E.nx δ (h3.set n (.dct (putQ qs k d)))
theorem s_dput (hu : X.A.units + 64 < cLine) (ho : DE X o td) (hi : DE X i ty) (hv : DE X value tv) (hs : swapsWith value (some (.Subscript o i pos')) pos.line X.env = pure false := by rfl) :
    DSt X (.Assign [.Subscript o i pos'] value pos) (dDPut td ty tv) := by
  refine PS.imp (ps_dput (u1 hu) ho hi hv hs) fun E σ H ⟨I, δ, h, ED, sr, hr, q, g⟩ => ?_
  refine ⟨I, δ, h, _, sr, hr, q, fun d h1 I1 H1 v q1 s1 hr1 rd => ?_⟩
  refine ⟨I1, δ, h1, _, sr.step s1, hr1, q1, fun x h2 I2 H2 xv q2 s2 hr2 rx => ?_⟩
  refine ⟨I2, δ, h2, _, (sr.step s1).step s2, hr2, q2, fun y h3 I3 H3 yv ⟨n, qs, k, e1, e2, e3, e4, hn⟩ s3 hr3 ry => ?_⟩
  subst e1
  obtain ⟨a, rfl, q5⟩ := (rx.step s3).refv
  obtain ⟨kvs, e5, e6, e7⟩ := hr3.ob n a _ q5 e2
  have kq : KQ X.K H3 I3 qs kvs := ⟨e6, e7⟩
  obtain rfl := keyD_ok ry e3
  have m : a ∈ I3 := List.mem_of_getElem? q5
  have st : Stp I3 H3 I3 (upd H3 a (.dK (putK kvs k v))) := Stp.put m ⟨_, e5, trivial⟩
  refine ⟨a, _, rfl, DPut.k e5 (by rw [kq.len]; exact e4), ?_⟩
  have kq2 := (kq.put (k := k) (rd.step (s2.trans s3))).step st
  exact g.nx _ _ I3 _ _ hn (s1.trans (s2.trans (s3.trans st))) (hr3.put q5 ⟨_, upd_same, kq2.ks, kq2.vs⟩) ((((sr.step s1).step s2).step s3).step st)
def dDNew : TDE := fun _ h R => R (.ref h.length) (h ++ [.dct []])
def dDNewV : TDE := fun _ h R => R (.dct [] []) h
theorem d_dnewN : DE X (.Dict [] [] pos) dDNew := by
  refine PE.imp pe_dnewK fun σ H Q ⟨I, δ, h, R, sr, hr, q, g⟩ p hp => ?_
  have st : Stp I H (I ++ [p]) (upd H p (.dK [])) := Stp.push hp
  exact g _ _ _ _ _ q st (hr.push hp ⟨_, upd_same, rfl, .nil⟩) (.ref (by rw [← hr.len, List.getElem?_append_right (Nat.le_refl _), Nat.sub_self]; rfl))
theorem d_dnew : DE X (.Dict [] [] pos) dDNewV := by
  refine PE.imp pe_dnewK fun σ H Q ⟨I, δ, h, R, sr, hr, q, g⟩ p hp => ?_
  have st : Stp I H I (upd H p (.dK [])) := Stp.new hp
  exact g _ _ _ _ _ q st (hr.new hp) (.dct (Or.inl upd_same) (hr.fresh hp) rfl .nil)
end
end FL
end
section
/-! Walks over dicts, dict comprehensions. -/
namespace FL
open PySem PySem.Spec PyProof.Rows L2

/-! ### a dict of ours is locked while it is walked -/
def dLock (t : TDS) : TDS := fun E δ h => ∃ n qs, h[n]? = some (.dct qs) ∧
  t { nx := fun δ' h' => h'[n]? = some (.fdc qs) ∧ E.nx δ' (h'.set n (.dct qs)), rt := fun d h' => h'[n]? = some (.fdc qs) ∧ E.rt d (h'.set n (.dct qs)), bk := fun δ' h' => h'[n]? = some (.fdc qs) ∧ E.bk δ' (h'.set n (.dct qs)), ct := fun δ' h' => h'[n]? = some (.fdc qs) ∧ E.ct δ' (h'.set n (.dct qs)) } δ (h.set n (.fdc qs))
def dLockE (t : TDE) : TDE := fun δ h R => ∃ n qs, h[n]? = some (.dct qs) ∧ t δ (h.set n (.fdc qs)) fun d h' => h'[n]? = some (.fdc qs) ∧ R d (h'.set n (.dct qs))
section
variable {K : Fg} {H H' : Hp} {I I' : List Addr} {h h' : OS} {a : Addr} {n : Nat} {qs : Qs} {kvs : List (Key × V)} {od : Obj}
theorem SR.stepW {δ : DS} {σ : L2.St} (r : SR K H I δ σ) (s : Stw I H I' H') : SR K H' I' δ σ := ⟨r.1, fun i d e => let ⟨v, q, x⟩ := r.2 i d e; ⟨v, q, RD.stepW s x⟩⟩
/-- unlocked again -/
theorem unlocked (e : H a = some (.dK kvs)) (m : a ∈ I) (s : Stp I (upd H a (.frz od (.dK kvs))) I' H') : Stp I H I' (upd H' a (.dK kvs)) := by
  refine ⟨⟨?_, fun b o q nb => ?_, fun b o q => ?_⟩, fun b o u q => ?_⟩
  · obtain ⟨new, e1, f⟩ := s.pre
    refine ⟨new, e1, fun p hp => ?_⟩
    have := f p hp
    by_cases z : p = a
    · rw [z, upd_same] at this
      cases this
    · rw [upd_ne z] at this
      exact this
  · have z : b ≠ a := fun z => nb (by rw [z]; exact m)
    rw [upd_ne z]
    exact s.keep b o (by rw [upd_ne z]; exact q) nb
  · by_cases z : b = a
    · exact ⟨_, by rw [z]; exact upd_same⟩
    · obtain ⟨o', q'⟩ := s.live b o (by rw [upd_ne z]; exact q)
      exact ⟨o', by rw [upd_ne z]; exact q'⟩
  · have z : b ≠ a := fun z => by
      rw [z, e] at q
      cases q
    rw [upd_ne z]
    exact s.fz b o u (by rw [upd_ne z]; exact q)
theorem lock_in (hr : HR K I h H) (q : I[n]? = some a) (e : h[n]? = some (.dct qs)) : ∃ kvs, H a = some (.dK kvs) ∧ KQ K H I qs kvs ∧ ∀ od, Stp I H I (upd H a (.frz od (.dK kvs))) ∧ HR K I (h.set n (.fdc qs)) (upd H a (.frz od (.dK kvs))) := by
  obtain ⟨kvs, e1, e2, e3⟩ := hr.ob n a _ q e
  have m : a ∈ I := List.mem_of_getElem? q
  refine ⟨kvs, e1, ⟨e2, e3⟩, fun od => ?_⟩
  have st : Stp I H I (upd H a (.frz od (.dK kvs))) := Stp.put m ⟨_, e1, trivial⟩
  exact ⟨st, hr.put q ⟨kvs, ⟨od, upd_same⟩, e2, e3.step st⟩⟩
theorem lock_out (hr : HR K I' h' H') (q : I'[n]? = some a) (e : H' a = some (.frz od (.dK kvs))) (kq : KQ K H' I' qs kvs) : Stw I' H' I' (upd H' a (.dK kvs)) ∧ HR K I' (h'.set n (.dct qs)) (upd H' a (.dK kvs)) := by
  have m : a ∈ I' := List.mem_of_getElem? q
  have st : Stw I' H' I' (upd H' a (.dK kvs)) := Stw.put m ⟨_, e⟩
  exact ⟨st, hr.put q ⟨kvs, upd_same, kq.ks, RDs.stepW st kq.vs⟩⟩
theorem num_of (hr : HR K I h H) {o : O} (e : h[n]? = some o) : ∃ a, I[n]? = some a := by
  have hl : n < I.length := by
    rw [hr.len]
    exact (List.getElem?_eq_some_iff.mp e).1
  exact ⟨_, List.getElem?_eq_getElem hl⟩
end
section
variable {X : Cx}
theorem s_lock {st : Stmt} {t : TDS} (ht : DSt X st t) : DSt X st (dLock t) := by
  refine PS.imp (ps_lock ht) fun E σ H ⟨I, δ, h, ED, sr, hr, ⟨n, qs, e, q⟩, g⟩ => ?_
  obtain ⟨a, ea⟩ := num_of hr e
  obtain ⟨kvs, e1, kq, f⟩ := lock_in hr ea e
  have m : a ∈ I := List.mem_of_getElem? ea
  refine ⟨a, .dK kvs, e1, trivial, fun od => ?_⟩
  obtain ⟨s0, hr0⟩ := f od
  refine ⟨I, δ, _, _, sr.step s0, hr0, q, ⟨?_, ?_, ?_, ?_⟩⟩
  · rintro δ' h' I' H' σ' ⟨_, hE⟩ s1 hr1 sr1
    have fz := s1.fz a od _ upd_same
    obtain ⟨w1, w2⟩ := lock_out hr1 (s1.at ea) fz ((kq.step s0).step s1)
    exact ⟨fz, g.nx δ' _ I' _ σ' hE (unlocked e1 m s1) w2 (sr1.stepW w1)⟩
  · rintro d h' I' H' v ⟨_, hE⟩ s1 hr1 rd
    have fz := s1.fz a od _ upd_same
    obtain ⟨w1, w2⟩ := lock_out hr1 (s1.at ea) fz ((kq.step s0).step s1)
    exact ⟨fz, g.rt d _ I' _ v hE (unlocked e1 m s1) w2 (RD.stepW w1 rd)⟩
  · rintro δ' h' I' H' σ' ⟨_, hE⟩ s1 hr1 sr1
    have fz := s1.fz a od _ upd_same
    obtain ⟨w1, w2⟩ := lock_out hr1 (s1.at ea) fz ((kq.step s0).step s1)
    exact ⟨fz, g.bk δ' _ I' _ σ' hE (unlocked e1 m s1) w2 (sr1.stepW w1)⟩
  · rintro δ' h' I' H' σ' ⟨_, hE⟩ s1 hr1 sr1
    have fz := s1.fz a od _ upd_same
    obtain ⟨w1, w2⟩ := lock_out hr1 (s1.at ea) fz ((kq.step s0).step s1)
    exact ⟨fz, g.ct δ' _ I' _ σ' hE (unlocked e1 m s1) w2 (sr1.stepW w1)⟩
theorem d_lock {e : Expr} {t : TDE} (ht : DE X e t) : DE X e (dLockE t) := by
  refine PE.imp (pe_lock ht) fun σ H Q ⟨I, δ, h, R, sr, hr, ⟨n, qs, e, q⟩, g⟩ => ?_
  obtain ⟨a, ea⟩ := num_of hr e
  obtain ⟨kvs, e1, kq, f⟩ := lock_in hr ea e
  have m : a ∈ I := List.mem_of_getElem? ea
  refine ⟨a, .dK kvs, e1, trivial, fun od => ?_⟩
  obtain ⟨s0, hr0⟩ := f od
  refine ⟨I, δ, _, _, sr.step s0, hr0, q, ?_⟩
  rintro d h' I' H' v ⟨_, hE⟩ s1 hr1 rd
  have fz := s1.fz a od _ upd_same
  obtain ⟨w1, w2⟩ := lock_out hr1 (s1.at ea) fz ((kq.step s0).step s1)
  exact ⟨fz, g d _ I' _ v hE (unlocked e1 m s1) w2 (RD.stepW w1 rd)⟩
def keyTo : Key → D
  | Sum.inl i => .int i
  | Sum.inr x => .str x
theorem keyTo_ok {K : Fg} {H : Hp} {I : List Addr} (k : Key) : RD K H I (keyTo k) (kV k) := by
  cases k with
  | inl i => exact .int i
  | inr x => exact .str x
/-- for k in d, the dict locked -/
def iKeysD (te : TDE) : TDI := fun δ h RS => te δ h fun x h1 => ∃ n qs, x = .ref n ∧ h1[n]? = some (.fdc qs) ∧ RS ⟨qs.map fun q => keyTo q.1, fun _ => True⟩ h1
theorem i_keys {tg l : Expr} {te : TDE} (hl : DE X l te) : DI X tg l (iKeysD te) := by
  refine PI.imp (pi_keys hl) fun σ H R ⟨I, δ, h, RS, sr, hr, q, g⟩ => ?_
  refine ⟨I, δ, h, _, sr, hr, q, fun d h1 I1 H1 v ⟨n, qs, e, e1, q1⟩ s1 hr1 rd => ?_⟩
  subst e
  obtain ⟨a, rfl, q2⟩ := rd.refv
  obtain ⟨kvs, ⟨o, e3⟩, e4, e5⟩ := hr1.ob n a _ q2 e1
  refine ⟨a, o, rfl, Or.inl ⟨kvs, e3, g _ h1 I1 H1 _ q1 s1 hr1 ?_⟩⟩
  have hlen : kvs.length = qs.length := (⟨e4, e5⟩ : KQ X.K H1 I1 qs kvs).len
  refine walkD_of walk_keys (by rw [List.length_map]; exact hlen) (fun I2 H2 h2 s r z => s.fz a o _ e3) fun i I2 H2 h2 d x H3 s r z e6 y => ?_
  obtain ⟨rfl, k, v, e7, rfl⟩ := y
  refine ⟨Stp.refl, r, ?_⟩
  have e8 : (kvs.map (·.1))[i]? = some k := by rw [List.getElem?_map, e7]; rfl
  rw [e4, List.getElem?_map] at e8
  rw [List.getElem?_map] at e6
  cases e9 : qs[i]? with
  | none =>
    rw [e9] at e8
    cases e8
  | some p =>
    rw [e9] at e8 e6
    cases e8
    cases e6
    exact keyTo_ok _
end
/-! ### {k: v for ..} -/
def dDcP (si : TDI) (c : CTg) (tt : TDT) (tk te : TDE) (vs : List Nat) (fin : Qs → OS → DK → Prop) : TDE := fun δ h R => si δ h fun S h1 => ∃ Pv : Nat → Qs → OS → Prop, Pv 0 [] h1 ∧ (∀ i acc h, i ≤ S.items.length → Pv i acc h → h.length = h1.length ∧ acc.length ≤ i ∧ okOs h.length h ∧ okRs h.length (acc.map (·.2)) ∧ S.G (h ++ [.dct acc])) ∧ S.items.length < sizeLine ∧
  (∀ (i : Nat) d acc h, S.items[i]? = some d → Pv i acc h → c.put d (wipeD δ vs) fun δ2 => tt δ2 (h ++ [.dct acc]) fun b h3 =>
    if b = true then tk δ2 h3 fun y h4 => te δ2 h4 fun z h4' => ∃ h5 g k, keyD y = some k ∧ h4' = h5 ++ (.dct acc :: g) ∧ okOs h1.length h5 ∧ okR h1.length z ∧ Pv (i + 1) (putQ acc k z) h5 else ∃ h5 g, h3 = h5 ++ (.dct acc :: g) ∧ okOs h1.length h5 ∧ Pv (i + 1) acc h5) ∧
  ∀ acc h, Pv S.items.length acc h → fin acc h R
theorem dc_up {K : Fg} {si : TDI} {c : CTg} {tt : TDT} {tk te : TDE} {vs : List Nat} {fin : Qs → OS → DK → Prop} {σ : L2.St} {H : Hp} {Q : VK} (hv : ∀ i ∈ c.slots, i ∈ vs)
    (hfin : ∀ acc h I Dd H2 (R : DK) (Q : VK), fin acc h R → HR K (I ++ [Dd]) (h ++ [.dct acc]) H2 → okOs h.length h → okRs h.length (acc.map (·.2)) → I.length = h.length →
      (∀ d h' I' v, R d h' → (I' = I ∨ I' = I ++ [Dd]) → HR K I' h' H2 → RD K H2 I' d v → Q v H2) → Q (.ref Dd) H2)
    (q : up K (dDcP si c tt tk te vs fin) σ H Q) : tDc (upI K si) (c.g K) (upT K tt) (up K tk) (up K te) vs σ H Q := by
  obtain ⟨I, δ, h, R, sr, hr, q, go⟩ := q
  refine ⟨I, δ, h, _, sr, hr, q, fun S h1 I1 H1 J ⟨Pv, p0, pG, psz, ps, pd⟩ s1 hr1 w Dd eD => ?_⟩
  have len1 : I1.length = h1.length := hr1.len
  have sr1 := (sr.step s1).wiped vs
  refine ⟨fun i m H2 => m + i = S.items.length ∧ ∃ acc h2, HR K (I1 ++ [Dd]) (h2 ++ [.dct acc]) H2 ∧ Stp I1 H1 (I1 ++ [Dd]) H2 ∧ Pv i acc h2, ⟨S.items.length, Nat.add_zero _, [], h1, hr1.push (x := .dct []) eD ⟨[], upd_same, rfl, .nil⟩, Stp.push eD, p0⟩, ?_⟩
  rintro i m H2 ⟨hm, acc, h2, hr2, s2, p2⟩
  obtain ⟨hl, hacc, ok1, ok2, gd⟩ := pG i acc h2 (by omega) p2
  by_cases hi : i = S.items.length
  · left
    subst hi
    refine ⟨w.stops _ H2 _ s2 hr2 gd, ?_⟩
    refine hfin acc h2 I1 Dd H2 R Q (pd acc h2 p2) hr2 ok1 ok2 (by rw [len1, hl]) fun d h' I' v hR hI hr' rd => ?_
    have st : Stp I1 H1 I' H2 := by
      rcases hI with e | e
      · subst e
        have := s2.drop (n := I'.length) (Nat.le_refl _)
        rw [List.take_append_of_le_length (Nat.le_refl _), List.take_length] at this
        exact this
      · subst e
        exact s2
    exact go d h' I' H2 v hR (s1.trans st) hr' rd
  · right
    have hlt : i < S.items.length := by omega
    have e : S.items[i]? = some S.items[i] := List.getElem?_eq_getElem hlt
    refine ⟨w.goes i _ H2 _ s2 hr2 gd hlt, fun H' => ∃ acc h2, HR K (I1 ++ [Dd]) (h2 ++ [.dct acc]) H' ∧ Stp I1 H1 (I1 ++ [Dd]) H' ∧ Pv (i + 1) acc h2, ?_, ?_⟩
    · rintro H' ⟨acc', h', a, b, d⟩
      exact ⟨m - 1, by omega, by omega, acc', h', a, b, d⟩
    · intro x H3 y
      obtain ⟨s3, hr3, rd⟩ := w.yields i _ H2 _ _ x H3 s2 hr2 gd e y
      have s13 := s2.trans s3
      refine CTg.ok hv rd (sr1.step s13) (ps i _ acc h2 e p2) fun δ2 σ2 q2 sr2 ws => ⟨?_, ?_⟩
      · rw [ws]
        exact wipe_wipe σ vs
      · refine ⟨_, δ2, _, _, sr2, hr3, q2, fun b h3 I4 H4 q4 s4 hr4 => ?_⟩
        have s14 := s13.trans s4
        -- the objects behind, forgotten
        have back : ∀ {h4 : OS} {I5 : List Addr} {H5 : Hp} {h5 g : OS} {acc' : Qs}, Stp I1 H1 I5 H5 → (∃ new, I5 = (I1 ++ [Dd]) ++ new) → HR K I5 (h5 ++ (.dct acc' :: g)) H5 → okOs h1.length h5 → Pv (i + 1) acc' h5 →
            ∃ acc h2, HR K (I1 ++ [Dd]) (h2 ++ [.dct acc]) H5 ∧ Stp I1 H1 (I1 ++ [Dd]) H5 ∧ Pv (i + 1) acc h2 := by
          intro h4 I5 H5 h5 g acc' st hI5 hr5 ok5 p5
          obtain ⟨new, rfl⟩ := hI5
          obtain ⟨hl5, _, _, oka, _⟩ := pG (i + 1) acc' h5 (by omega) p5
          have hr6 : HR K (((I1 ++ [Dd]) ++ new).take (h5 ++ [O.dct acc']).length) (h5 ++ [O.dct acc']) H5 := by
            refine HR.drop (g := g) ?_ ?_
            · have e8 : h5 ++ [O.dct acc'] ++ g = h5 ++ (O.dct acc' :: g) := by
                rw [List.append_assoc]
                rfl
              rw [e8]
              exact hr5
            · refine okOs_append (ok5.mono ?_) ⟨oka.mono ?_, trivial⟩
              · rw [List.length_append, hl5]
                exact Nat.le_add_right _ _
              · rw [List.length_append]
                exact Nat.le_add_right _ _
          have e6 : ((I1 ++ [Dd]) ++ new).take (h5 ++ [O.dct acc']).length = I1 ++ [Dd] := by
            have : (h5 ++ [O.dct acc']).length = (I1 ++ [Dd]).length := by
              rw [List.length_append, List.length_append, hl5, len1]
              rfl
            rw [this, List.take_append_of_le_length (Nat.le_refl _), List.take_length]
          rw [e6] at hr6
          refine ⟨acc', h5, hr6, ?_, p5⟩
          have := st.drop (n := (I1 ++ [Dd]).length) (by rw [List.length_append]; exact Nat.le_add_right _ _)
          rw [List.take_append_of_le_length (Nat.le_refl _), List.take_length] at this
          exact this
        cases b with
        | false =>
          have q4' : ∃ h5 g, h3 = h5 ++ (.dct acc :: g) ∧ okOs h1.length h5 ∧ Pv (i + 1) acc h5 := q4
          obtain ⟨h5, g, rfl, ok5, p5⟩ := q4'
          obtain ⟨new, e5, _⟩ := s4.pre
          exact back (h4 := []) s14 ⟨new, e5⟩ hr4 ok5 p5
        | true =>
          refine ⟨I4, δ2, h3, _, sr2.step s4, hr4, q4, fun y h4 I5 H5 yv q5 s5 hr5 ry => ?_⟩
          refine ⟨I5, δ2, h4, _, (sr2.step s4).step s5, hr5, q5, fun z h4' I6 H6 zv q6 s6 hr6 rz => ?_⟩
          obtain ⟨h5, g, k, ek, rfl, ok5, oky, p5⟩ := q6
          have s15 := (s14.trans s5).trans s6
          obtain ⟨hl5, hacc5, _, _, _⟩ := pG (i + 1) (putQ acc k z) h5 (by omega) p5
          obtain ⟨new, e5, _⟩ := ((s4.trans s5).trans s6).pre
          have eD5 : I6[h5.length]? = some Dd := by
            rw [e5, hl5, ← len1, List.append_assoc, List.getElem?_append_right (Nat.le_refl _), Nat.sub_self]
            rfl
          have ob := hr6.ob h5.length Dd (.dct acc) eD5 (by rw [List.getElem?_append_right (Nat.le_refl _), Nat.sub_self]; rfl)
          obtain ⟨accV, eA, eK, rA⟩ := ob
          have kq : KQ K H6 I6 acc accV := ⟨eK, rA⟩
          have hlen : acc.length < sizeLine := by omega
          have ey := keyD_ok (ry.step s6) ek
          refine ⟨accV, k, ey, eA, by rw [kq.len]; exact hlen, ?_⟩
          have mD : Dd ∈ I6 := List.mem_of_getElem? eD5
          have s7 : Stp I6 H6 I6 (upd H6 Dd (.dK (putK accV k zv))) := Stp.put mD ⟨_, eA, trivial⟩
          have kq2 := (kq.put (k := k) rz).step s7
          have hr7 := hr6.put (x := .dct (putQ acc k z)) eD5 ⟨_, upd_same, kq2.ks, kq2.vs⟩
          have e7 : (h5 ++ (O.dct acc :: g)).set h5.length (.dct (putQ acc k z)) = h5 ++ (.dct (putQ acc k z) :: g) := by
            rw [List.set_append_right _ _ (Nat.le_refl _), Nat.sub_self]
            rfl
          rw [e7] at hr7
          exact back (h4 := []) (s15.trans s7) ⟨new, e5⟩ hr7 ok5 p5
def dDc (si : TDI) (c : CTg) (tt : TDT) (tk te : TDE) (vs : List Nat) : TDE := dDcP si c tt tk te vs fun acc h R => R (.dct (acc.map (·.1)) (acc.map (·.2))) h
def dDcN (si : TDI) (c : CTg) (tt : TDT) (tk te : TDE) (vs : List Nat) : TDE := dDcP si c tt tk te vs fun acc h R => R (.ref h.length) (h ++ [.dct acc])
section
variable {X : Cx} {kx elt tg iter : Expr} {ifs : List Expr} {scope : Scope} {own : List (Str × Nat)} {pos : Pos} {si : TDI} {c : CTg} {tt : TDT} {tk te : TDE}
theorem fin_valD {K : Fg} : ∀ (acc : Qs) (h : OS) (I : List Addr) (Dd : Addr) (H2 : Hp) (R : DK) (Q : VK), R (.dct (acc.map (·.1)) (acc.map (·.2))) h → HR K (I ++ [Dd]) (h ++ [.dct acc]) H2 → okOs h.length h → okRs h.length (acc.map (·.2)) → I.length = h.length →
      (∀ d h' I' v, R d h' → (I' = I ∨ I' = I ++ [Dd]) → HR K I' h' H2 → RD K H2 I' d v → Q v H2) → Q (.ref Dd) H2 := by
  intro acc h I Dd H2 R Q hR hr ok1 ok2 hl q
  have hr2 := hr.drop ok1
  have e : (I ++ [Dd]).take h.length = I := by
    rw [← hl, List.take_append_of_le_length (Nat.le_refl _), List.take_length]
  rw [e] at hr2
  have eD : (I ++ [Dd])[h.length]? = some Dd := by
    rw [← hl, List.getElem?_append_right (Nat.le_refl _), Nat.sub_self]
    rfl
  have fz := frozen (m := h.length) hr (.ref eD) (show (h ++ [O.dct acc])[h.length]? = some (.dct acc) by rw [List.getElem?_append_right (Nat.le_refl _), Nat.sub_self]; rfl) (Nat.le_refl _) ok2
  rw [e] at fz
  exact q _ h I _ hR (Or.inl rfl) hr2 fz
theorem fin_newD {K : Fg} : ∀ (acc : Qs) (h : OS) (I : List Addr) (Dd : Addr) (H2 : Hp) (R : DK) (Q : VK), R (.ref h.length) (h ++ [.dct acc]) → HR K (I ++ [Dd]) (h ++ [.dct acc]) H2 → okOs h.length h → okRs h.length (acc.map (·.2)) → I.length = h.length →
      (∀ d h' I' v, R d h' → (I' = I ∨ I' = I ++ [Dd]) → HR K I' h' H2 → RD K H2 I' d v → Q v H2) → Q (.ref Dd) H2 := by
  intro acc h I Dd H2 R Q hR hr ok1 ok2 hl q
  refine q _ _ (I ++ [Dd]) _ hR (Or.inr rfl) hr (.ref ?_)
  rw [← hl, List.getElem?_append_right (Nat.le_refl _), Nat.sub_self]
  rfl
theorem d_dc (hc : X.calm = true) (hN : X.N.Nodup) (hi : DI X tg iter si) (ok : BlkOk X.N X.env.scope scope own) (hv : ∀ i ∈ c.slots, i ∈ own.map (·.2))
    (hg : ∀ (s : Shared) (H : Hp) (C : Addr) (cl : List (Str × Addr)) (fp : List Addr), PG (X.blk s H scope (compEnvC scope cl C X.env) fp) tg (c.g X.K)) (ht : ∀ (s : Shared) (H : Hp) (C : Addr) (cl : List (Str × Addr)) (fp : List Addr), DTs (X.blk s H scope (compEnvC scope cl C X.env) fp) ifs tt)
    (hk : ∀ (s : Shared) (H : Hp) (C : Addr) (cl : List (Str × Addr)) (fp : List Addr), DE (X.blk s H scope (compEnvC scope cl C X.env) fp) kx tk)
    (he : ∀ (s : Shared) (H : Hp) (C : Addr) (cl : List (Str × Addr)) (fp : List Addr), DE (X.blk s H scope (compEnvC scope cl C X.env) fp) elt te) (hs : ∀ x, foldedSetIterable iter X.env x = pure x := by intro _; rfl) :
    DE X (.DictComp kx elt [⟨tg, iter, ifs, 0⟩] scope pos) (dDc si c tt tk te (own.map (·.2))) := PE.imp (pe_dc hc hN hi ok hg ht hk he hs) fun _ _ _ => dc_up hv fin_valD
theorem d_dcN (hc : X.calm = true) (hN : X.N.Nodup) (hi : DI X tg iter si) (ok : BlkOk X.N X.env.scope scope own) (hv : ∀ i ∈ c.slots, i ∈ own.map (·.2))
    (hg : ∀ (s : Shared) (H : Hp) (C : Addr) (cl : List (Str × Addr)) (fp : List Addr), PG (X.blk s H scope (compEnvC scope cl C X.env) fp) tg (c.g X.K)) (ht : ∀ (s : Shared) (H : Hp) (C : Addr) (cl : List (Str × Addr)) (fp : List Addr), DTs (X.blk s H scope (compEnvC scope cl C X.env) fp) ifs tt)
    (hk : ∀ (s : Shared) (H : Hp) (C : Addr) (cl : List (Str × Addr)) (fp : List Addr), DE (X.blk s H scope (compEnvC scope cl C X.env) fp) kx tk)
    (he : ∀ (s : Shared) (H : Hp) (C : Addr) (cl : List (Str × Addr)) (fp : List Addr), DE (X.blk s H scope (compEnvC scope cl C X.env) fp) elt te) (hs : ∀ x, foldedSetIterable iter X.env x = pure x := by intro _; rfl) :
    DE X (.DictComp kx elt [⟨tg, iter, ifs, 0⟩] scope pos) (dDcN si c tt tk te (own.map (·.2))) := PE.imp (pe_dc hc hN hi ok hg ht hk he hs) fun _ _ _ => dc_up hv fin_newD
end
end FL
end
section
/-! sorted of tuples that begin with different texts. -/
namespace FL
open PySem PySem.Spec PyProof.Rows L2

/-! ### texts by rank -/
def ltS (x y : Str) : Prop := x.cps.toList < y.cps.toList
instance (x y : Str) : Decidable (ltS x y) := inferInstanceAs (Decidable (x.cps.toList < y.cps.toList))
theorem ltS_irrefl (x : Str) : ¬ ltS x x := List.lt_irrefl _
theorem ltS_trans {x y z : Str} (a : ltS x y) (b : ltS y z) : ltS x z := List.lt_trans a b
theorem str_ext {x y : Str} (h : x.cps.toList = y.cps.toList) : x = y := by
  cases x
  cases y
  simp only at h
  rw [Array.toList_inj.mp h]
theorem ltS_total {x y : Str} (a : ¬ ltS x y) (n : x ≠ y) : ltS y x := by
  unfold ltS at *
  rcases List.le_iff_lt_or_eq.mp (List.not_lt.mp a) with h | h
  · exact h
  · exact absurd (str_ext h.symm) n
theorem count_le {α : Type} {p q : α → Bool} (h : ∀ x, p x = true → q x = true) : ∀ l : List α, l.countP p ≤ l.countP q
  | [] => Nat.le_refl _
  | x :: l => by
    rw [List.countP_cons, List.countP_cons]
    have ih := count_le h l
    by_cases z : p x = true
    · rw [if_pos z, if_pos (h x z)]
      omega
    · rw [if_neg z]
      split <;> omega
theorem count_lt {α : Type} {p q : α → Bool} (h : ∀ x, p x = true → q x = true) {a : α} (ha : p a = false) (hq : q a = true) : ∀ l : List α, a ∈ l → l.countP p < l.countP q
  | [], m => by cases m
  | x :: l, m => by
    rw [List.countP_cons, List.countP_cons]
    rcases List.mem_cons.mp m with e | m
    · subst e
      rw [ha, hq]
      have := count_le h l
      simp
      omega
    · have ih := count_lt h ha hq l m
      by_cases z : p x = true
      · rw [if_pos z, if_pos (h x z)]
        omega
      · rw [if_neg z]
        split <;> omega
def rk (T : List Str) (y : Str) : Int := (T.countP fun z => decide (ltS z y) : Nat)
theorem rk_ok {T : List Str} {x y : Str} (hx : x ∈ T) (hy : y ∈ T) : decide (ltS x y) = decide (rk T x < rk T y) := by
  by_cases z : ltS x y
  · rw [decide_eq_true z]
    symm
    refine decide_eq_true ?_
    unfold rk
    have := count_lt (p := fun z => decide (ltS z x)) (q := fun z => decide (ltS z y)) (fun u hu => decide_eq_true (ltS_trans (of_decide_eq_true hu) z)) (a := x) (decide_eq_false (ltS_irrefl x)) (decide_eq_true z) T hx
    omega
  · rw [decide_eq_false z]
    symm
    refine decide_eq_false ?_
    unfold rk
    have := count_le (p := fun z => decide (ltS z y)) (q := fun z => decide (ltS z x)) (fun u hu => decide_eq_true (by
      by_cases e : x = y
      · rw [e]
        exact of_decide_eq_true hu
      · exact ltS_trans (of_decide_eq_true hu) (ltS_total z e))) T
    omega

/-! ### the sort's questions -/
def TxT (h : Heap) (v : Value) (y : Str) : Prop := ∃ (a : Addr) (t : Tok) (r : List Value), v = .ref a ∧ IsTup h a (.str y t :: r).toArray
theorem TxT.keeps {h h' : Heap} {v : Value} {y : Str} (x : TxT h v y) (k : ∀ b o, h.get? b = some o → o.cls = .type "tuple" → h'.get? b = some o) : TxT h' v y := by
  obtain ⟨a, t, r, e, o, ho, hc, n, hd⟩ := x
  exact ⟨a, t, r, e, o, k a o ho hc, hc, n, hd⟩
section
variable {prog : Program} {w : World} {A : Around} {s : Shared} {E : Value → Shared → Prop}
theorem kat_same {b fin : Bool} {Q : Bool → Shared → Prop} (h : Q fin s) : ∀ (l : List Value) (i : Nat), PySem.W.KatLex prog w A b fin Q (l.zip l) i s
  | [], i => PySem.W.kat_nil h
  | v :: l, i => PySem.W.kat_cons (SeqAt.EqAt.same _ _ _ _ _ (PySem.W.kat_yes (kat_same h l (i + 1))))
theorem tx_firsts {h : Heap} {f : Value → Str} : ∀ vs : List Value, (∀ v ∈ vs, TxT h v (f v)) → ∃ fs : List Value, PySem.W.KatTups h vs fs ∧ fs.length = vs.length ∧ ∀ u ∈ fs, ∃ y t, u = Value.str y t
  | [], _ => ⟨[], PySem.W.KatTups.nil, rfl, fun f hf => by simp at hf⟩
  | v :: vs, x => by
    obtain ⟨fs, k, hl, hi⟩ := tx_firsts vs fun u hu => x u (List.mem_cons_of_mem _ hu)
    obtain ⟨a, t, r, rfl, o, ho, hc, n, hd⟩ := x v (List.mem_cons_self ..)
    refine ⟨.str _ t :: fs, PySem.W.KatTups.cons ho hc hd rfl k, by rw [List.length_cons, List.length_cons, hl], fun u hu => ?_⟩
    rcases List.mem_cons.mp hu with rfl | hu
    · exact ⟨_, _, rfl⟩
    · exact hi u hu
theorem kind_tx {vs : List Value} {f : Value → Str} {ρ : Str → Int} (h2 : 2 ≤ vs.length) (x : ∀ v ∈ vs, TxT s.heap v (f v)) (inj : ∀ u ∈ vs, ∀ v ∈ vs, f u = f v → u = v)
    (hρ : ∀ u ∈ vs, ∀ v ∈ vs, decide (ltS (f u) (f v)) = decide (ρ (f u) < ρ (f v))) (Q : SortKind → Shared → Prop)
    (h : ∀ κ, TS.Cmp prog w A s κ (pairsOf vs) (fun v => ρ (f v)) → Q κ s) : wpAny (model prog w) A (keyKind' vs.toArray) Q E s := by
  obtain ⟨fs, k, hl, hi⟩ := tx_firsts vs x
  refine PySem.W.kat_kind (T := Value.type "str") k (by omega) (fun u hu => ?_) rfl (h _ ?_)
  · obtain ⟨y, t, rfl⟩ := hi u hu
    exact .now
  · have hb : (Value.type "str" != Value.type "tuple") = true := by first | rfl | decide | simp
    rw [hb]
    intro p q hp hq Q' E' hQ
    rw [pairsOf_toList] at hp hq
    have mp := (mem_zip_self hp).2
    have mq := (mem_zip_self hq).2
    have hQ' : Q' (decide (ltS (f p.1) (f q.1))) s := by
      rw [hρ _ mp _ mq]
      exact hQ
    have px := x _ mp
    have qx := x _ mq
    by_cases e : f p.1 = f q.1
    · have e1 := inj _ mp _ mq e
      rw [← e1] at hQ' ⊢
      rw [decide_eq_false (ltS_irrefl _)] at hQ'
      obtain ⟨a, t, r, ea, o, ho, hc, n, hd⟩ := px
      rw [ea]
      refine PySem.W.kat_lt ho hd ho hd ?_
      rw [decide_eq_false (Nat.lt_irrefl _)]
      exact kat_same hQ' _ 0
    · obtain ⟨a, t, r, ea, o, ho, hc, n, hd⟩ := px
      obtain ⟨a', t', r', ea', o', ho', hc', n', hd'⟩ := qx
      rw [ea, ea']
      refine PySem.W.kat_lt ho hd ho' hd' ?_
      refine PySem.W.kat_cons (wpAny_eqBool_str ?_)
      refine PySem.W.kat_go (fun e0 => ?_) (fun _ => ?_)
      · exact absurd (by simpa using e0) e
      · refine PySem.W.kat_no ?_
        show wpAny _ _ (oneLt' true _ _) _ _ _
        exact oneLt_str hQ'
theorem sort_tx {a : Addr} {vs : List Value} {n : Nat} {f : Value → Str} {P : PySem.Fin → Shared → Prop} (ho : s.heap.get? a = some (seqObj "list" vs.toArray n)) (h64 : vs.length < 64) (x : ∀ v ∈ vs, TxT s.heap v (f v)) (inj : ∀ u ∈ vs, ∀ v ∈ vs, f u = f v → u = v)
    (h : ∀ out : Array Value, out.toList.Perm vs → out.toList.Pairwise (fun u v => ¬ ltS (f v) (f u)) → P (.done (.ret .none)) { s with heap := sortedHeap s.heap a vs out }) :
    wpAny (model prog w) A (Builtin.«list.sort» ⟨[.ref a], []⟩) P E s := by
  have keep : ∀ b o, s.heap.get? b = some o → o.cls = .type "tuple" → (TS.midHeap s.heap a vs).get? b = some o := fun b o e hc => by
    refine TS.midHeap_old ?_ e
    rintro rfl
    rw [ho] at e
    cases e
    exact absurd (Value.type.inj hc) (by decide)
  have mem : ∀ v ∈ vs, f v ∈ vs.map f := fun v hv => List.mem_map.mpr ⟨v, hv, rfl⟩
  refine SK.plain_sort (r := fun v => rk (vs.map f) (f v)) ho h64 (fun h2 Q hQ => ?_) fun ps out h1 h2 h3 => ?_
  · exact kind_tx (s := { s with heap := TS.midHeap s.heap a vs }) h2 (fun v hv => (x v hv).keeps keep) inj (fun u hu v hv => rk_ok (mem u hu) (mem v hv)) Q hQ
  · obtain ⟨p, o⟩ := TS.out_rank (r := fun v => rk (vs.map f) (f v)) h1 h2 h3
    refine h out p (List.Pairwise.imp_of_mem (fun {u v} hu hv huv z => ?_) o)
    have e := rk_ok (T := vs.map f) (mem v (p.mem_iff.mp hv)) (mem u (p.mem_iff.mp hu))
    rw [decide_eq_true z] at e
    have := of_decide_eq_true e.symm
    omega
/-- what stands behind the first list that collect fills -/
abbrev hpC (h : Heap) (us : List Value) : Heap := (h.push (seqObj "list" #[] 0)).update h.objs.size (Obj.mapSeq (· ++ us.toArray))
theorem hpC_size (h : Heap) (us : List Value) : (hpC h us).objs.size = h.objs.size + 1 := (Heap.size_update ..).trans (size_push' ..)
theorem hpC_old {h : Heap} {us : List Value} {b : Addr} {q : Obj} (e : h.get? b = some q) : ((hpC h us).push (seqObj "list" us.toArray 0)).get? b = some q := by
  have lt := Heap.lt_size e
  refine (Heap.get?_push_ne _ _ _ ?_).trans ((Heap.get?_update_ne _ _ _ _ (Nat.ne_of_lt lt)).trans ((Heap.get?_push_ne _ _ _ (Nat.ne_of_lt lt)).trans e))
  rw [hpC_size]
  exact Nat.ne_of_lt (Nat.lt_succ_of_lt lt)
theorem collect_seq {x : Addr} {q : Obj} {n : Nat} {us : List Value} {T : String} {R : List Value → Shared → Prop} (e : s.heap.get? x = some q) (ec : q.cls = .type T) (hT : (Value.type T == Value.type "list" || Value.type T == Value.type "tuple") = true) (ed : q.data = .seq us.toArray n)
    (hz : us.length ≤ sizeLine) (h : R us { s with heap := hpC s.heap us }) : wpAny (model prog w) A (collect (.ref x)) R E s := by
  have e2 : (s.heap.push (seqObj "list" #[] 0)).get? x = some q := Heap.get?_push_of_some _ e
  have same : ∀ b : Bool, (b || Value.type T == Value.type "list" || Value.type T == Value.type "tuple") = true := fun b => by
    rw [Bool.or_assoc, hT, Bool.or_true]
  unfold collect; refine wpAny_bind (wpAny_runValue (codeAny_builtin entry_proto_collect' (wpAny_bind (wpAny_newList (wpAny_pure ⟨Code.quiet_builtin _ (by decide +kernel), codeAny_builtin entry_list_iadd' ?_⟩)))))
  show wpAny _ _ (Builtin.List.listExtendWith (.ref s.heap.objs.size) (.ref x) _) _ _ _
  unfold Builtin.List.listExtendWith; refine wpAny_bind (wpAny_typeOf (T := T) ⟨q, e2, ec⟩ ?_)
  rw [if_pos (same _)]; refine wpAny_bind (listItems_at e2 ed (wpAny_bind (listItems_at (xs := #[]) (n := 0) (Heap.get?_push_size _ rfl) rfl ?_)))
  rw [if_neg (by simp)]; refine wpAny_bind (listUpdate_at (xs := #[]) (n := 0) (Heap.get?_push_size _ rfl) rfl (wpAny_pure ?_) (Nat.zero_le _) ?_)
  · refine wpAny_bind (m := load s.heap.objs.size) (wpAny_load (get?_update_seq (Heap.get?_push_size _ rfl) _) ?_)
    have e3 : ((#[] : Array Value) ++ us.toArray).toList = us := by simp
    show wpAny _ _ (pure (((#[] : Array Value) ++ us.toArray).toList)) R E _
    rw [e3]; exact wpAny_pure h
  · show ((#[] : Array Value) ++ us.toArray).size ≤ sizeLine + 1
    simp only [Array.size_append, List.size_toArray, List.length_nil]; omega
theorem sorted_tx {x : Addr} {q : Obj} {n : Nat} {us : List Value} {T : String} {f : Value → Str} {R : Value → Shared → Prop} (e : s.heap.get? x = some q) (ec : q.cls = .type T) (hT : (Value.type T == Value.type "list" || Value.type T == Value.type "tuple") = true) (ed : q.data = .seq us.toArray n)
    (h64 : us.length < 64) (tx : ∀ v ∈ us, TxT s.heap v (f v)) (inj : ∀ u ∈ us, ∀ v ∈ us, f u = f v → u = v)
    (h : ∀ out : Array Value, out.toList.Perm us → out.toList.Pairwise (fun u v => ¬ ltS (f v) (f u)) → R (.ref (s.heap.objs.size + 1)) { s with heap := sortedAll s.heap us out }) :
    wpAny (model prog w) A (call (.builtin "sorted") [.ref x]) R E s := by
  have hz : us.length ≤ sizeLine := by rw [sizeLine_eq]; omega
  have at1 : ((hpC s.heap us).push (seqObj "list" us.toArray 0)).get? (s.heap.objs.size + 1) = some (seqObj "list" us.toArray 0) := by
    rw [← hpC_size s.heap us]
    exact Heap.get?_push_size _ rfl
  refine Calls.call_function_entry kind_sorted plain_sorted entry_sorted (args_sorted1 _) ?_; unfold Builtin.«sorted»
  refine wpAny_bind (m := checkCount "sorted" 1 1 _) (wpAny_pure (wpAny_bind (collect_seq e ec hT ed hz (wpAny_bind (wpAny_newList ?_ hz)))))
  show wpAny _ _ _ _ _ { s with heap := (hpC s.heap us).push (seqObj "list" us.toArray 0) }
  rw [hpC_size]; refine wpAny_bind (wpAny_holding (wpAny_call_entry slot_list_sort ⟨_, at1, rfl⟩ entry_list_sort (sort_tx (f := f) at1 h64 (fun v hv => (tx v hv).keeps fun b o eb _ => hpC_old eb) inj fun out a1 a2 => ⟨_, rfl, wpAny_pure ⟨_, rfl, h out a1 a2⟩⟩) (args_list_sort _)))
end
end FL
end
section
/-! sorted, over data. -/
namespace FL
open PySem PySem.Spec PyProof.Rows L2

theorem RDs.perm {K : Fg} {H : Hp} {I : List Addr} {xs ys : List V} (p : ys.Perm xs) : ∀ {ds : List D}, RDs K H I ds xs → ∃ es, es.Perm ds ∧ RDs K H I es ys := by
  induction p with
  | nil =>
    intro ds r
    exact ⟨ds, .refl _, r⟩
  | cons x p ih =>
    intro ds r
    cases r with
    | cons a r =>
      obtain ⟨es, q, r2⟩ := ih r
      exact ⟨_ :: es, q.cons _, .cons a r2⟩
  | swap x y l =>
    intro ds r
    cases r with
    | cons a r =>
      cases r with
      | cons b r => exact ⟨_ :: _ :: _, .swap _ _ _, .cons b (.cons a r)⟩
  | trans p q ih1 ih2 =>
    intro ds r
    obtain ⟨es, e1, r1⟩ := ih2 r
    obtain ⟨fs, e2, r2⟩ := ih1 r1
    exact ⟨fs, e2.trans e1, r2⟩
theorem RDs.mem {K : Fg} {H : Hp} {I : List Addr} : ∀ {ds : List D} {xs : List V} {x : V}, RDs K H I ds xs → x ∈ xs → ∃ d ∈ ds, RD K H I d x
  | _, _, _, .nil, m => by cases m
  | _, _, x, .cons a r, m => by
    rcases List.mem_cons.mp m with e | m
    · subst e
      exact ⟨_, List.mem_cons_self .., a⟩
    · obtain ⟨d, hd, q⟩ := RDs.mem r m
      exact ⟨d, List.mem_cons_of_mem _ hd, q⟩
def firstS : D → Str
  | .tup (.str y :: _) => y
  | _ => Str.empty
/-- texts not falling -/
def upTx (ss : List Str) : Prop := ss.Pairwise fun a b => ¬ ltS b a
theorem nlt_trans {a b c : Str} (h1 : ¬ ltS b a) (h2 : ¬ ltS c b) : ¬ ltS c a := fun z => by
  by_cases e : a = b
  · subst e
    exact h2 z
  · exact h2 (ltS_trans z (ltS_total h1 fun x => e x.symm))
theorem up_rising : ∀ (r : List Str) (x : Str), risingS x r = true → (x :: r).Pairwise fun a b => ¬ ltS b a
  | [], x, _ => List.pairwise_singleton _ _
  | y :: r, x, h => by
    unfold risingS at h
    rw [Bool.and_eq_true] at h
    have ih := up_rising r y h.2
    have hxy : ¬ ltS y x := by
      intro z
      have := h.1
      unfold ltS at z
      rw [ltCps_eq, decide_eq_true z] at this
      cases this
    refine List.pairwise_cons.mpr ⟨fun z hz => ?_, ih⟩
    rcases List.mem_cons.mp hz with e | m
    · rw [e]
      exact hxy
    · exact nlt_trans hxy ((List.pairwise_cons.mp ih).1 z m)
theorem up_sorted {ss : List Str} (h : sortedS ss = true) : upTx ss := by
  cases ss with
  | nil => exact .nil
  | cons x r => exact up_rising r x h
/-- sorted(xs): texts; ints; tuples that begin with different texts -/
def fSorted : FA := fun ds h R => ∃ x k es, ds = [x] ∧ sqv h x = some (k, es) ∧
  ((k = true ∧ ∃ ss : List Str, es = ss.map D.str ∧ ss.length < 64 ∧ ∀ ts : List Str, ts.Perm ss → upTx ts → R (.lst (ts.map D.str)) h) ∨
   (k = true ∧ ∃ ns : List Int, es = ns.map D.int ∧ ∀ ms : List Int, ms.Perm ns → ms.Pairwise (· ≤ ·) → R (.lst (ms.map D.int)) h) ∨
   (es.length < 64 ∧ (∀ e ∈ es, ∃ y r, e = .tup (.str y :: r)) ∧ (es.map firstS).Nodup ∧ ∀ fs : List D, fs.Perm es → fs.Pairwise (fun a b => ltS (firstS a) (firstS b)) → R (.lst fs) h))
section
variable {X : Cx}
/-- at the raw values -/
def rTx (K : Fg) : List V → Hp → VK → Prop := fun vs H Q => ∃ (a : Addr) (xs : List V) (f : V → Str), vs = [V.ref a] ∧ (SqL K H a xs ∨ SqT K H a xs) ∧ xs.length < 64 ∧ (∀ x ∈ xs, ∃ p r, x = V.ref p ∧ SqT K H p (.str (f x) :: r)) ∧ (∀ x ∈ xs, ∀ y ∈ xs, f x = f y → x = y) ∧
  ∀ (ys : List V) (p : Addr), ys.Perm xs → ys.Pairwise (fun x y => ¬ ltS (f y) (f x)) → H p = none → Q (.ref p) (upd H p (.lst ys))
theorem cr_tx : CallR X (.builtin "sorted") (rTx X.K) := by
  intro pins s σ H vs us Q J r ⟨a, xs, f, e0, hs, h64, hx, inj, q⟩
  subst e0
  have src : ∃ (its : List Value) (o : Obj) (n : Nat) (T : String), Vals xs its ∧ s.heap.get? a = some o ∧ o.cls = .type T ∧ (Value.type T == Value.type "list" || Value.type T == Value.type "tuple") = true ∧ o.data = .seq its.toArray n ∧ xs.length ≤ sizeLine := by
    rcases hs with hs | hs
    · obtain ⟨its, rv, ⟨o, n, e1, e2, e3, e4⟩, hz⟩ := J.list hs
      exact ⟨its, o, n, "list", rv, e1, e2, rfl, e4, hz⟩
    · obtain ⟨its, rv, ⟨o, e1, e2, n, e4⟩, hz⟩ := J.tuple hs
      exact ⟨its, o, n, "tuple", rv, e1, e2, rfl, e4, hz⟩
  obtain ⟨its, o, n, T, rv, e1, e2, e3, e4, hz⟩ := src
  rw [Vals.ref1 r]
  obtain ⟨b1, b2⟩ := bkV_refs rv fun x m => by
    obtain ⟨p, r, e, _⟩ := hx x m
    exact ⟨p, e⟩
  have back : ∀ v ∈ its, bkV v ∈ xs := fun v hv => by
    rw [b1]
    exact List.mem_map.mpr ⟨v, hv, rfl⟩
  refine sorted_tx (f := fun v => f (bkV v)) e1 e2 e3 e4 (by rw [← rv.length]; exact h64) (fun v hv => ?_) (fun u hu v hv e => ?_) fun out h1 h2 => ?_
  · obtain ⟨p, r, ep, hp⟩ := hx _ (back v hv)
    obtain ⟨ts, rt, ht, _⟩ := J.tuple hp
    have ev := bkV_ref ep
    cases rt with
    | cons a1 a2 =>
      obtain ⟨t, rfl⟩ := a1
      exact ⟨p, t, _, ev, ht⟩
  · have := inj _ (back u hu) _ (back v hv) e
    obtain ⟨p, rfl⟩ := b2 u hu
    obtain ⟨p', rfl⟩ := b2 v hv
    cases this
    rfl
  · obtain ⟨ep, he'⟩ := sortedAll_at s.heap its out
    have h3 : ∀ u ∈ out.toList, ∃ a, u = Value.ref a := fun u hu => b2 u (h1.mem_iff.mp hu)
    have hp : (out.toList.map bkV).Perm xs := by
      rw [b1]
      exact h1.map bkV
    refine ⟨.ref _, upd H (s.heap.objs.size + 1) (.lst (out.toList.map bkV)), J.laid (t' := s.toks) (fun _ _ => sortedAll_old) (Nat.le_succ _) ⟨by rw [hp.length_eq]; exact hz, out.toList, ep, bkV_vals h3, he'⟩, rfl, q _ _ hp ?_ (J.hok.fresh (Nat.le_succ _))⟩
    rw [List.pairwise_map]
    exact h2
theorem nodup_first {K : Fg} {H : Hp} {I : List Addr} {f : V → Str} : ∀ {es : List D} {ws : List V}, RDs K H I es ws → (∀ (i : Nat) d x, es[i]? = some d → ws[i]? = some x → f x = firstS d) → (es.map firstS).Nodup → ∀ x ∈ ws, ∀ y ∈ ws, f x = f y → x = y := by
  intro es ws r hf nd x hx y hy e
  obtain ⟨i, hi, ei⟩ := List.getElem_of_mem hx
  obtain ⟨j, hj, ej⟩ := List.getElem_of_mem hy
  have xi : ws[i]? = some x := by rw [List.getElem?_eq_getElem hi, ei]
  have yj : ws[j]? = some y := by rw [List.getElem?_eq_getElem hj, ej]
  obtain ⟨d, di, _⟩ := r.getV xi
  obtain ⟨d', dj, _⟩ := r.getV yj
  have e1 := hf i d x di xi
  have e2 := hf j d' y dj yj
  have f1 : (es.map firstS)[i]? = some (firstS d) := by rw [List.getElem?_map, di]; rfl
  have f2 : (es.map firstS)[j]? = some (firstS d') := by rw [List.getElem?_map, dj]; rfl
  have : i = j := (List.getElem?_inj (List.getElem?_eq_some_iff.mp f1).1 nd).mp (by rw [f1, f2, ← e1, ← e2, e])
  subst this
  rw [xi] at yj
  cases yj
  rfl
/-- the text at the front of a tuple's value -/
noncomputable def frontV (K : Fg) (H : Hp) (x : V) : Str := by
  classical
  exact if h : ∃ y p r, x = V.ref p ∧ SqT K H p (.str y :: r) then h.choose else Str.empty
theorem frontV_is {pins : List (Addr × Obj)} {s : Shared} {σ : L2.St} {H : Hp} {p : Addr} {y : Str} {r : List V} (J : Inv X pins σ H s) (h : SqT X.K H p (.str y :: r)) : frontV X.K H (.ref p) = y := by
  have ex : ∃ y p' r, V.ref p = V.ref p' ∧ SqT X.K H p' (.str y :: r) := ⟨y, p, r, rfl, h⟩
  unfold frontV
  rw [dif_pos ex]
  obtain ⟨p', r', e, h'⟩ := ex.choose_spec
  cases e
  have := J.tuple_inj h h'
  injection this with a _
  injection a with b
  exact b.symm
theorem o_sorted : DC X (.builtin "sorted") fSorted := by
  intro pins s σ H xs us Q J r ⟨I, ds, h, R, hr, rd, ⟨x, k, es, e, e1, hf⟩, go⟩
  subst e
  obtain ⟨v, rfl, rx⟩ := rd.one
  obtain ⟨p, ws, rfl, hs, rs⟩ := sqv_ok hr rx e1
  rcases hf with ⟨rfl, ss, rfl, hl, hR⟩ | ⟨rfl, ns, rfl, hR⟩ | ⟨hl, hx, nd, hR⟩
  · have := rs.strs
    subst this
    rcases hs with ⟨_, hs⟩ | ⟨hk, _⟩
    · refine cr_sortedS pins s σ H _ us Q J r ⟨p, ss, rfl, hs, hl, fun ts a pm so ha => ?_⟩
      exact go.lst (hR ts pm (up_sorted so)) hr (rds_strs ts) a ha
    · cases hk
  · have := rs.ints
    subst this
    rcases hs with ⟨_, hs⟩ | ⟨hk, _⟩
    · refine cr_sortedI pins s σ H _ us Q J r ⟨p, ns, rfl, hs, fun ms a pm so ha => ?_⟩
      exact go.lst (hR ms pm so) hr (rds_ints ms) a ha
    · cases hk
  · have front : ∀ (i : Nat) d x, es[i]? = some d → ws[i]? = some x → frontV X.K H x = firstS d := fun i d x hd hx' => by
      obtain ⟨v, ev, rv⟩ := rs.get hd
      rw [hx'] at ev
      cases ev
      obtain ⟨y, r, rfl⟩ := hx d (List.mem_of_getElem? hd)
      cases rv with
      | tup h1 r1 =>
        cases r1 with
        | cons a1 a2 =>
          cases a1
          exact frontV_is J h1.sq
    refine cr_tx pins s σ H _ us Q J r ⟨p, ws, frontV X.K H, rfl, hs.imp (·.2) (·.2), by rw [← rs.length]; exact hl, fun x hx' => ?_, nodup_first rs front nd, fun ys a pm so ha => ?_⟩
    · obtain ⟨i, hi, ei⟩ := List.getElem_of_mem hx'
      have xi : ws[i]? = some x := by rw [List.getElem?_eq_getElem hi, ei]
      obtain ⟨d, di, rdx⟩ := rs.getV xi
      have e2 := front i d x di xi
      obtain ⟨y, r, rfl⟩ := hx d (List.mem_of_getElem? di)
      cases rdx with
      | tup h1 r1 =>
        cases r1 with
        | cons a1 a2 =>
          cases a1
          rw [e2]
          exact ⟨_, _, rfl, h1.sq⟩
    · obtain ⟨fs, pf, rf⟩ := rs.perm pm
      refine go.lst (hR fs pf ?_) hr rf a ha
      have front2 : ∀ (i : Nat) d x, fs[i]? = some d → ys[i]? = some x → frontV X.K H x = firstS d ∧ ∃ y r, d = .tup (.str y :: r) := fun i d x hd hx' => by
        obtain ⟨v, ev, rv⟩ := rf.get hd
        rw [hx'] at ev
        cases ev
        obtain ⟨y, r, rfl⟩ := hx d (pf.mem_iff.mp (List.mem_of_getElem? hd))
        cases rv with
        | tup h1 r1 =>
          cases r1 with
          | cons a1 a2 =>
            cases a1
            exact ⟨frontV_is J h1.sq, _, _, rfl⟩
      have nd2 : (fs.map firstS).Nodup := (pf.map firstS).nodup_iff.mpr nd
      rw [List.pairwise_iff_getElem]
      intro i j hi hj hij
      have hi' : i < ys.length := by rw [← rf.length]; exact hi
      have hj' : j < ys.length := by rw [← rf.length]; exact hj
      have e3 := (front2 i _ _ (List.getElem?_eq_getElem hi) (List.getElem?_eq_getElem hi')).1
      have e4 := (front2 j _ _ (List.getElem?_eq_getElem hj) (List.getElem?_eq_getElem hj')).1
      have so' := (List.pairwise_iff_getElem.mp so) i j hi' hj' hij
      rw [e3, e4] at so'
      refine ltS_total so' fun z => ?_
      have f1 : (fs.map firstS)[j]? = some (firstS fs[j]) := by rw [List.getElem?_map, List.getElem?_eq_getElem hj]; rfl
      have f2 : (fs.map firstS)[i]? = some (firstS fs[i]) := by rw [List.getElem?_map, List.getElem?_eq_getElem hi]; rfl
      have : j = i := (List.getElem?_inj (List.getElem?_eq_some_iff.mp f1).1 nd2).mp (by rw [f1, f2, z])
      omega
end
end FL
end
section
/-! Constants of the module, dict(pairs), enumerate, zip, signs of a text. -/
namespace FL
open PySem PySem.Spec PyProof.Rows L2

section
variable {X : Cx} {x : Str} {pos : Pos}
theorem d_gI {i : Int} (h : ∃ t, X.mg x = some (.int i t)) (hg : Gl X x := by rfl) (hd : (x == ("__debug__" : Str)) = false := by decide) : DE X (.Name x pos) (dC (.int i)) := by
  obtain ⟨t, e⟩ := h
  exact PE.imp (pe_glob (v := .int i) hg e ⟨t, rfl⟩ hd) fun σ H Q ⟨I, δ, h, R, sr, hr, q, g⟩ => g.now q hr (.int i)
theorem d_gS {z : Str} (h : ∃ t, X.mg x = some (.str z t)) (hg : Gl X x := by rfl) (hd : (x == ("__debug__" : Str)) = false := by decide) : DE X (.Name x pos) (dC (.str z)) := by
  obtain ⟨t, e⟩ := h
  exact PE.imp (pe_glob (v := .str z) hg e ⟨t, rfl⟩ hd) fun σ H Q ⟨I, δ, h, R, sr, hr, q, g⟩ => g.now q hr (.str z)
end

/-! ### dict(pairs) -/
def mergeQ (qs more : Qs) : Qs := more.foldl (fun acc q => putQ acc q.1 q.2) qs
theorem KQ.merge {K : Fg} {H : Hp} {I : List Addr} : ∀ {more qs : Qs} {ms kvs : List (Key × V)}, KQ K H I more ms → KQ K H I qs kvs → KQ K H I (mergeQ qs more) (mergeK kvs ms)
  | [], qs, ms, kvs, m, q => by
    cases m.nil'
    exact q
  | p :: more, qs, ms, kvs, m, q => by
    obtain ⟨v, r, rfl, rv, m1⟩ := m.uncons
    have z := KQ.merge m1 (q.put (k := p.1) rv)
    exact z
/-- pairs of a key and a thing -/
def pairD (q : Key × D) : D := .tup [keyTo q.1, q.2]
theorem keyTo_inv {K : Fg} {H : Hp} {I : List Addr} {k : Key} {v : V} (r : RD K H I (keyTo k) v) : v = kV k := by
  cases k with
  | inl i =>
    cases r
    rfl
  | inr z =>
    cases r
    rfl
theorem pairs_rd {K : Fg} {H : Hp} {I : List Addr} : ∀ {qs : Qs} {ws : List V}, RDs K H I (qs.map pairD) ws → ∃ (ps : List Addr) (kvs : List (Key × V)), ws = ps.map V.ref ∧ Paired (fun p kv => SqT K H p [kV kv.1, kv.2]) ps kvs ∧ KQ K H I qs kvs
  | [], ws, r => by
    cases r
    exact ⟨[], [], rfl, .nil, rfl, .nil⟩
  | q :: qs, ws, r => by
    cases r with
    | cons a r =>
      obtain ⟨ps, kvs, rfl, pr, kq⟩ := pairs_rd r
      cases a with
      | tup h1 r1 =>
        cases r1 with
        | cons b1 b2 =>
          cases b2 with
          | cons c1 c2 =>
            cases c2
            have ek := keyTo_inv b1
            subst ek
            exact ⟨_ :: ps, (q.1, _) :: kvs, rfl, .cons h1.sq pr, KQ.cons (k := q.1) (d := q.2) c1 kq⟩
def fDict : FA := fun ds h R => ∃ x qs, ds = [x] ∧ sqv h x = some (true, qs.map pairD) ∧ R (.dct ((mergeQ [] qs).map (·.1)) ((mergeQ [] qs).map (·.2))) h
theorem o_dict {X : Cx} (hc : X.calm = true) : DC X (.type "dict") fDict := by
  intro pins s σ H xs us Q J r ⟨I, ds, h, R, hr, rd, ⟨x, qs, e, e1, hR⟩, go⟩
  subst e
  obtain ⟨v, rfl, rx⟩ := rd.one
  obtain ⟨p, ws, rfl, hs, rs⟩ := sqv_ok hr rx e1
  obtain ⟨ps, kvs, rfl, pr, kq⟩ := pairs_rd rs
  rcases hs with ⟨_, hs⟩ | ⟨hk, _⟩
  · refine call_dictP hc pins s σ H _ us Q J r ⟨p, ps, kvs, rfl, hs, pr, fun a ha => ?_⟩
    have st : Stp I H I (upd H a (.dK (mergeK [] kvs))) := Stp.new ha
    have kq2 := (KQ.merge kq (⟨rfl, .nil⟩ : KQ X.K H I [] [])).step st
    exact go _ _ _ _ _ hR st (hr.new ha) (.dct (Or.inl upd_same) (hr.fresh ha) kq2.ks kq2.vs)
  · cases hk

/-! ### enumerate, zip -/
def enumD (es : List D) : List D := es.mapIdx fun i d => .tup [.int (i : Nat), d]
def iEnumD (te : TDE) : TDI := fun δ h RS => te δ h fun x h1 => ∃ es, sqv h1 x = some (true, es) ∧ RS ⟨enumD es, fun h2 => sqv h2 x = some (true, es)⟩ h1
def iZipD (ta tb : TDE) : TDI := fun δ h RS => ta δ h fun x h1 => tb δ h1 fun y h2 => ∃ es fs, sqv h2 x = some (true, es) ∧ sqv h2 y = some (true, fs) ∧ RS ⟨List.zipWith (fun a b => .tup [a, b]) es fs, fun h3 => sqv h3 x = some (true, es) ∧ sqv h3 y = some (true, fs)⟩ h2
/-- a list whose content stands -/
theorem seqL {K : Fg} {I I2 : List Addr} {H H2 : Hp} {h2 : OS} {x : D} {p : Addr} {es : List D} (rd : RD K H I x (.ref p)) (s : Stp I H I2 H2) (r : HR K I2 h2 H2) (e : sqv h2 x = some (true, es)) : ∃ xs, SqL K H2 p xs ∧ RDs K H2 I2 es xs := by
  obtain ⟨p', xs, e1, hs, rs⟩ := sqv_ok r (rd.step s) e
  cases e1
  rcases hs with ⟨_, hs⟩ | ⟨hk, _⟩
  · exact ⟨xs, hs, rs⟩
  · cases hk
theorem new_pair {K : Fg} {I : List Addr} {H : Hp} {h : OS} {T : Addr} {d d' : D} {v v' : V} (hr : HR K I h H) (e : H T = none) (a : RD K H I d v) (b : RD K H I d' v') : Stp I H I (upd H T (.tup [v, v'])) ∧ HR K I h (upd H T (.tup [v, v'])) ∧ RD K (upd H T (.tup [v, v'])) I (.tup [d, d']) (.ref T) := by
  have st : Stp I H I (upd H T (.tup [v, v'])) := Stp.new e
  exact ⟨st, hr.new e, .tup (Or.inl ⟨Or.inl upd_same, hr.fresh e⟩) (.cons (a.step st) (.cons (b.step st) .nil))⟩
section
variable {X : Cx} {e e2 : Expr} {ta tb : TDE} {p pos tpos : Pos} {elts : List Expr} {kk : Nat}
theorem i_enum (hg : Gl X "enumerate") (hm : X.mg "enumerate" = none) (he : DE X e ta) (hs1 : starEach [e] X.env = (false, eval e X.env) :: starEach [] X.env := by rfl) (hs : starEach [e] X.env = [(false, eval e X.env)] := by rfl) :
    DI X (.Tuple elts kk tpos) (.Call (.Name "enumerate" p) [e] [] pos) (iEnumD ta) := by
  refine PI.imp (pi_enum hg hm (da_cons he da_nil hs1) hs) fun σ H R ⟨I, δ, h, RS, sr, hr, q, g⟩ => ?_
  refine ⟨I, δ, h, fun ds h1 => ∃ x es, ds = [x] ∧ sqv h1 x = some (true, es) ∧ RS ⟨enumD es, fun h2 => sqv h2 x = some (true, es)⟩ h1, sr, hr, ?_, ?_⟩
  · show ta δ h fun x h1 => ∃ x' es, [x] = [x'] ∧ sqv h1 x' = some (true, es) ∧ RS ⟨enumD es, fun h2 => sqv h2 x' = some (true, es)⟩ h1
    have e0 : (fun (x : D) (h1 : OS) => ∃ x' es, [x] = [x'] ∧ sqv h1 x' = some (true, es) ∧ RS ⟨enumD es, fun h2 => sqv h2 x' = some (true, es)⟩ h1) = fun x h1 => ∃ es, sqv h1 x = some (true, es) ∧ RS ⟨enumD es, fun h2 => sqv h2 x = some (true, es)⟩ h1 := by
      funext x h1
      apply propext
      constructor
      · rintro ⟨x', es, e, a, b⟩
        cases e
        exact ⟨es, a, b⟩
      · rintro ⟨es, a, b⟩
        exact ⟨x, es, rfl, a, b⟩
    rw [e0]
    exact q
  · rintro ds h1 I1 H1 vs ⟨x, es, rfl, e1, q1⟩ s1 hr1 rd
    obtain ⟨v, rfl, rx⟩ := rd.one
    obtain ⟨a, xs0, rfl, hs0, _⟩ := sqv_ok hr1 rx e1
    obtain ⟨xs, sq, rs⟩ := seqL rx Stp.refl hr1 e1
    refine ⟨a, xs, rfl, sq, g _ h1 I1 H1 _ q1 s1 hr1 ?_⟩
    refine ⟨fun i I2 H2 h2 s r z l => ?_, fun I2 H2 h2 s r z => ?_, fun i I2 H2 h2 d y H3 s r z e3 yl => ?_⟩
    · obtain ⟨ys, q4, r4⟩ := seqL rx s r z
      have l' : i < es.length := by
        have : (enumD es).length = es.length := List.length_mapIdx
        rw [← this]
        exact l
      obtain ⟨w, e5, _⟩ := r4.get (List.getElem?_eq_getElem l')
      exact ⟨ys, w, q4, e5⟩
    · obtain ⟨ys, q4, r4⟩ := seqL rx s r z
      refine ⟨ys, q4, ?_⟩
      rw [← r4.length]
      exact Nat.le_of_eq List.length_mapIdx.symm
    · obtain ⟨T, w, rfl, e6, rfl, e7⟩ := yl
      obtain ⟨ys, q4, r4⟩ := seqL rx s r z
      have e8 := e7 ys q4
      obtain ⟨d', e9, rd'⟩ := r4.getV e8
      have e3' : (enumD es)[i]? = some d := e3
      unfold enumD at e3'
      rw [List.getElem?_mapIdx, e9] at e3'
      cases e3'
      exact new_pair r e6 (.int _) rd'
theorem i_zip (hg : Gl X "zip") (hm : X.mg "zip" = none) (he : DE X e ta) (he2 : DE X e2 tb) (hs2 : starEach [e2] X.env = (false, eval e2 X.env) :: starEach [] X.env := by rfl)
    (hs : starEach [e, e2] X.env = (false, eval e X.env) :: starEach [e2] X.env := by rfl) (hpl : (backTo pos (starEach [e2] X.env)).any (·.1) = false := by rfl) :
    DI X (.Tuple elts kk tpos) (.Call (.Name "zip" p) [e, e2] [] pos) (iZipD ta tb) := by
  refine PI.imp (pi_zip hg hm (da_cons he (da_cons he2 da_nil hs2) hs) hs hpl) fun σ H R ⟨I, δ, h, RS, sr, hr, q, g⟩ => ?_
  refine ⟨I, δ, h, fun ds h1 => ∃ x y es fs, ds = [x, y] ∧ sqv h1 x = some (true, es) ∧ sqv h1 y = some (true, fs) ∧ RS ⟨List.zipWith (fun a b => .tup [a, b]) es fs, fun h3 => sqv h3 x = some (true, es) ∧ sqv h3 y = some (true, fs)⟩ h1, sr, hr, ?_, ?_⟩
  · show ta δ h fun x h1 => tb δ h1 fun y h2 => ∃ x' y' es fs, [x, y] = [x', y'] ∧ sqv h2 x' = some (true, es) ∧ sqv h2 y' = some (true, fs) ∧ RS ⟨List.zipWith (fun a b => .tup [a, b]) es fs, fun h3 => sqv h3 x' = some (true, es) ∧ sqv h3 y' = some (true, fs)⟩ h2
    have e0 : ∀ x : D, (fun (y : D) (h2 : OS) => ∃ x' y' es fs, [x, y] = [x', y'] ∧ sqv h2 x' = some (true, es) ∧ sqv h2 y' = some (true, fs) ∧ RS ⟨List.zipWith (fun a b => D.tup [a, b]) es fs, fun h3 => sqv h3 x' = some (true, es) ∧ sqv h3 y' = some (true, fs)⟩ h2) = fun y h2 => ∃ es fs, sqv h2 x = some (true, es) ∧ sqv h2 y = some (true, fs) ∧ RS ⟨List.zipWith (fun a b => .tup [a, b]) es fs, fun h3 => sqv h3 x = some (true, es) ∧ sqv h3 y = some (true, fs)⟩ h2 := by
      intro x
      funext y h2
      apply propext
      constructor
      · rintro ⟨x', y', es, fs, e, a, b⟩
        cases e
        exact ⟨es, fs, a, b⟩
      · rintro ⟨es, fs, a, b⟩
        exact ⟨x, y, es, fs, rfl, a, b⟩
    have e1 : (fun x h1 => tb δ h1 fun y h2 => ∃ x' y' es fs, [x, y] = [x', y'] ∧ sqv h2 x' = some (true, es) ∧ sqv h2 y' = some (true, fs) ∧ RS ⟨List.zipWith (fun a b => D.tup [a, b]) es fs, fun h3 => sqv h3 x' = some (true, es) ∧ sqv h3 y' = some (true, fs)⟩ h2) = fun x h1 => tb δ h1 fun y h2 => ∃ es fs, sqv h2 x = some (true, es) ∧ sqv h2 y = some (true, fs) ∧ RS ⟨List.zipWith (fun a b => .tup [a, b]) es fs, fun h3 => sqv h3 x = some (true, es) ∧ sqv h3 y = some (true, fs)⟩ h2 := by
      funext x h1
      rw [e0 x]
    rw [e1]
    exact q
  · rintro ds h1 I1 H1 vs ⟨x, y, es, fs, rfl, e1, e2', q1⟩ s1 hr1 rd
    cases rd with
    | cons rx rd =>
      cases rd with
      | cons ry rd =>
        cases rd
        obtain ⟨a, _, rfl, _, _⟩ := sqv_ok hr1 rx e1
        obtain ⟨b, _, rfl, _, _⟩ := sqv_ok hr1 ry e2'
        obtain ⟨xs, sq, rs⟩ := seqL rx Stp.refl hr1 e1
        obtain ⟨ys, sq2, rs2⟩ := seqL ry Stp.refl hr1 e2'
        refine ⟨a, b, xs, ys, rfl, sq, sq2, g _ h1 I1 H1 _ q1 s1 hr1 ?_⟩
        refine ⟨fun i I2 H2 h2 s r z l => ?_, fun I2 H2 h2 s r z => ?_, fun i I2 H2 h2 d w H3 s r z e3 yl => ?_⟩
        · obtain ⟨u1, q4, r4⟩ := seqL rx s r z.1
          obtain ⟨u2, q5, r5⟩ := seqL ry s r z.2
          have l' : i < min es.length fs.length := by
            have : (List.zipWith (fun a b => D.tup [a, b]) es fs).length = min es.length fs.length := List.length_zipWith
            rw [← this]
            exact l
          obtain ⟨w1, e5, _⟩ := r4.get (List.getElem?_eq_getElem (show i < es.length by omega))
          obtain ⟨w2, e6, _⟩ := r5.get (List.getElem?_eq_getElem (show i < fs.length by omega))
          exact ⟨u1, u2, w1, w2, q4, q5, e5, e6⟩
        · obtain ⟨u1, q4, r4⟩ := seqL rx s r z.1
          obtain ⟨u2, q5, r5⟩ := seqL ry s r z.2
          refine ⟨u1, u2, q4, q5, ?_⟩
          rw [← r4.length, ← r5.length]
          have : (List.zipWith (fun a b => D.tup [a, b]) es fs).length = min es.length fs.length := List.length_zipWith
          show es.length ≤ (List.zipWith (fun a b => D.tup [a, b]) es fs).length ∨ fs.length ≤ (List.zipWith (fun a b => D.tup [a, b]) es fs).length
          omega
        · obtain ⟨T, w1, w2, rfl, e6, rfl, e7, e8⟩ := yl
          obtain ⟨u1, q4, r4⟩ := seqL rx s r z.1
          obtain ⟨u2, q5, r5⟩ := seqL ry s r z.2
          obtain ⟨d1, f1, g1⟩ := r4.getV (e7 u1 q4)
          obtain ⟨d2, f2, g2⟩ := r5.getV (e8 u2 q5)
          have e3' : (List.zipWith (fun a b => D.tup [a, b]) es fs)[i]? = some d := e3
          rw [List.getElem?_zipWith, f1, f2] at e3'
          cases e3'
          exact new_pair r e6 g1 g2
/-- the signs of a text -/
def signsD (z : Str) : List D := z.cps.toList.map fun c => .str ⟨#[c]⟩
def iStrD (te : TDE) : TDI := fun δ h RS => te δ h fun x h1 => ∃ z, x = .str z ∧ RS ⟨signsD z, fun _ => True⟩ h1
theorem i_str {tg : Expr} (he : DE X e ta) : DI X tg e (iStrD ta) := by
  refine PI.imp (pi_str he) fun σ H R ⟨I, δ, h, RS, sr, hr, q, g⟩ => ?_
  refine ⟨I, δ, h, _, sr, hr, q, fun d h1 I1 H1 v ⟨z, e1, q1⟩ s1 hr1 rd => ?_⟩
  subst e1
  cases rd
  refine ⟨z, rfl, g _ h1 I1 H1 _ q1 s1 hr1 ?_⟩
  refine walkD_of walk_str (by unfold signsD; rw [List.length_map]; simp) (fun _ _ _ _ _ _ => trivial) fun i I2 H2 h2 d x H3 s r zz e3 y => ?_
  obtain ⟨rfl, c, e4, rfl⟩ := y
  have e5 : (signsD z)[i]? = some d := e3
  unfold signsD at e5
  rw [List.getElem?_map, Array.getElem?_toList, e4] at e5
  cases e5
  exact ⟨Stp.refl, r, .str _⟩
end
end FL
end
section
/-! Readings made plain: dicts, walks, comprehensions. -/
namespace FL
open PySem L2

theorem set_self {h : OS} {i : Nat} {o : O} (e : h[i]? = some o) : h.set i o = h := by
  apply List.ext_getElem?
  intro j
  by_cases z : i = j
  · subst z
    rw [List.getElem?_set_self (List.getElem?_eq_some_iff.mp e).1, e]
  · rw [List.getElem?_set_ne z]
theorem okOs_set {h : OS} {i n : Nat} {o : O} (k : okOs n h) (ko : okO n o) : okOs n (h.set i o) := okOs_iff.mpr fun x hx => by
  rcases List.mem_or_eq_of_mem_set hx with z | z
  · exact okOs_iff.mp k x z
  · rw [z]
    exact ko
theorem okOs_snoc {h : OS} {o : O} (k : okOs h.length h) (ko : okO (h.length + 1) o) : okOs (h ++ [o]).length (h ++ [o]) := by
  rw [List.length_append]
  exact okOs_append (k.mono (Nat.le_succ _)) ⟨ko, trivial⟩
theorem dcv_val {h : OS} {qs : Qs} : dcv h (.dct (qs.map (·.1)) (qs.map (·.2))) = some qs := by
  show (if (qs.map (·.1)).length = (qs.map (·.2)).length then some ((qs.map (·.1)).zip (qs.map (·.2))) else none) = some qs
  rw [if_pos (by rw [List.length_map, List.length_map])]
  congr 1
  induction qs with
  | nil => rfl
  | cons q qs ih =>
    rw [List.map_cons, List.map_cons, List.zip_cons_cons, ih]
theorem dcv_ref {h : OS} {n : Nat} {qs : Qs} (e : h[n]? = some (.dct qs)) : dcv h (.ref n) = some qs := by simp only [dcv, e]
theorem dcv_fz {h : OS} {n : Nat} {qs : Qs} (e : h[n]? = some (.fdc qs)) : dcv h (.ref n) = some qs := by simp only [dcv, e]
theorem sqv_ref {h : OS} {n : Nat} {ds : List D} (e : h[n]? = some (.lst ds)) : sqv h (.ref n) = some (true, ds) := by simp only [sqv, e]
/-- what is walked of a list -/
def seqSrc (x : D) (h : OS) (P : Src → Prop) : Prop := match x with
  | .ref n => ∃ ds, h[n]? = some (.lst ds) ∧ P ⟨ds, fun h => h[n]? = some (.lst ds)⟩
  | x => ∃ ds, sqv h x = some (true, ds) ∧ P ⟨ds, fun _ => True⟩
section
variable {E : DEnds} {δ : DS} {h : OS} {R : DK} {t u : TDS} {te ta tb tc : TDE} {tt : TDT} {d x y z : D} {i n : Nat} {RS : Src → OS → Prop} {qs : Qs} {k : Key}
theorem r_dget (e : dcv h x = some qs) (ek : keyD y = some k) (v : valD qs k = some d) (q : R d h) : fDGet x y h R := ⟨qs, k, d, e, ek, v, q⟩
theorem r_dgetS {s : Str} (e : dcv h x = some qs) (v : valD qs (Sum.inr s) = some d) (q : R d h) : fDGet x (.str s) h R := ⟨qs, _, d, e, rfl, v, q⟩
theorem r_dgetI {j : Int} (e : dcv h x = some qs) (v : valD qs (Sum.inl j) = some d) (q : R d h) : fDGet x (.int j) h R := ⟨qs, _, d, e, rfl, v, q⟩
theorem r_dinS {s : Str} {b : Bool} (e : dcv h x = some qs) (q : R (.bl ((valD qs (Sum.inr s)).isSome == b)) h) : fDIn b (.str s) x h R := ⟨qs, e, Or.inl ⟨_, rfl, q⟩⟩
theorem r_dinI {j : Int} {b : Bool} (e : dcv h x = some qs) (q : R (.bl ((valD qs (Sum.inl j)).isSome == b)) h) : fDIn b (.int j) x h R := ⟨qs, e, Or.inl ⟨_, rfl, q⟩⟩
theorem r_dinN {b : Bool} (e : dcv h x = some qs) (q : R (.bl (false == b)) h) : fDIn b .non x h R := ⟨qs, e, Or.inr ⟨rfl, q⟩⟩
theorem r_dget2 (q : ta δ h fun x h1 => (∃ qs, dcv h1 x = some qs) ∧ tb δ h1 fun y h2 => tc δ h2 fun z h3 => ∃ qs, dcv h3 x = some qs ∧ ((∃ k, keyD y = some k ∧ R ((valD qs k).getD z) h3) ∨ (y = .non ∧ R z h3))) : dDGet2 ta tb tc δ h R := q
theorem r_dgd {P : Prop} (e : dcv h x = some qs) (q : P) : (∃ qs, dcv h x = some qs) ∧ P := ⟨⟨qs, e⟩, q⟩
theorem r_dgS {s : Str} (e : dcv h x = some qs) (q : R ((valD qs (Sum.inr s)).getD z) h) : ∃ qs, dcv h x = some qs ∧ ((∃ k, keyD (.str s) = some k ∧ R ((valD qs k).getD z) h) ∨ (D.str s = .non ∧ R z h)) := ⟨qs, e, Or.inl ⟨_, rfl, q⟩⟩
theorem r_dgI {j : Int} (e : dcv h x = some qs) (q : R ((valD qs (Sum.inl j)).getD z) h) : ∃ qs, dcv h x = some qs ∧ ((∃ k, keyD (.int j) = some k ∧ R ((valD qs k).getD z) h) ∨ (D.int j = .non ∧ R z h)) := ⟨qs, e, Or.inl ⟨_, rfl, q⟩⟩
theorem r_dgN (e : dcv h x = some qs) (q : R z h) : ∃ qs, dcv h x = some qs ∧ ((∃ k, keyD .non = some k ∧ R ((valD qs k).getD z) h) ∨ (D.non = .non ∧ R z h)) := ⟨qs, e, Or.inr ⟨rfl, q⟩⟩
theorem r_dput (q : tc δ h fun d h1 => ta δ h1 fun x h2 => tb δ h2 fun y h3 => ∃ n qs k, x = .ref n ∧ h3[n]? = some (.dct qs) ∧ keyD y = some k ∧ qs.length < sizeLine ∧ E.nx δ (h3.set n (.dct (putQ qs k d)))) : dDPut ta tb tc E δ h := q
theorem r_dputS {s : Str} {P : OS → Prop} (e : h[n]? = some (.dct qs)) (l : qs.length < 16777216) (q : P (h.set n (.dct (putQ qs (Sum.inr s) d)))) : ∃ n' qs k, D.ref n = .ref n' ∧ h[n']? = some (.dct qs) ∧ keyD (.str s) = some k ∧ qs.length < sizeLine ∧ P (h.set n' (.dct (putQ qs k d))) := ⟨n, qs, _, rfl, e, rfl, l, q⟩
theorem r_dputI {j : Int} {P : OS → Prop} (e : h[n]? = some (.dct qs)) (l : qs.length < 16777216) (q : P (h.set n (.dct (putQ qs (Sum.inl j) d)))) : ∃ n' qs k, D.ref n = .ref n' ∧ h[n']? = some (.dct qs) ∧ keyD (.int j) = some k ∧ qs.length < sizeLine ∧ P (h.set n' (.dct (putQ qs k d))) := ⟨n, qs, _, rfl, e, rfl, l, q⟩
theorem r_dnewN (q : R (.ref h.length) (h ++ [.dct []])) : dDNew δ h R := q
theorem r_dnew (q : R (.dct [] []) h) : dDNewV δ h R := q
theorem r_lock (e : h[n]? = some (.dct qs)) (q : t { nx := fun δ' h' => h'[n]? = some (.fdc qs) ∧ E.nx δ' (h'.set n (.dct qs)), rt := fun d h' => h'[n]? = some (.fdc qs) ∧ E.rt d (h'.set n (.dct qs)), bk := fun δ' h' => h'[n]? = some (.fdc qs) ∧ E.bk δ' (h'.set n (.dct qs)), ct := fun δ' h' => h'[n]? = some (.fdc qs) ∧ E.ct δ' (h'.set n (.dct qs)) } δ (h.set n (.fdc qs))) : dLock t E δ h := ⟨n, qs, e, q⟩
theorem r_lockE (e : h[n]? = some (.dct qs)) (q : te δ (h.set n (.fdc qs)) fun d h' => h'[n]? = some (.fdc qs) ∧ R d (h'.set n (.dct qs))) : dLockE te δ h R := ⟨n, qs, e, q⟩
theorem r_keys (q : te δ h fun x h1 => ∃ n qs, x = .ref n ∧ h1[n]? = some (.fdc qs) ∧ RS ⟨qs.map fun q => keyTo q.1, fun _ => True⟩ h1) : iKeysD te δ h RS := q
theorem r_keysR {P : Qs → Prop} (e : h[n]? = some (.fdc qs)) (q : P qs) : ∃ n' qs, D.ref n = .ref n' ∧ h[n']? = some (.fdc qs) ∧ P qs := ⟨n, qs, rfl, e, q⟩
theorem r_iseq (q : te δ h fun x h1 => seqSrc x h1 fun S => RS S h1) : iSeq te δ h RS := q
theorem r_iseqL {ds : List D} {P : Src → Prop} (q : P ⟨ds, fun _ => True⟩) : seqSrc (.lst ds) h P := ⟨ds, rfl, q⟩
theorem r_iseqZ {ds : List D} {P : Src → Prop} (q : P ⟨ds, fun _ => True⟩) : seqSrc (.scr ds) h P := ⟨ds, rfl, q⟩
theorem r_iseqR {ds : List D} {P : Src → Prop} (e : h[n]? = some (.lst ds)) (q : P ⟨ds, fun h => h[n]? = some (.lst ds)⟩) : seqSrc (.ref n) h P := ⟨ds, e, q⟩
theorem r_itup (q : te δ h fun x h1 => ∃ ds, x = .tup ds ∧ RS ⟨ds, fun _ => True⟩ h1) : iTupD te δ h RS := q
theorem r_itupT {ds : List D} {P : List D → Prop} (q : P ds) : ∃ ds', D.tup ds = .tup ds' ∧ P ds' := ⟨ds, rfl, q⟩
theorem r_range2 (q : ta δ h fun x h1 => tb δ h1 fun y h2 => ∃ i j, x = .int i ∧ y = .int j ∧ (-(2 ^ 62) ≤ i ∧ i < 2 ^ 62 ∧ -(2 ^ 62) ≤ j ∧ j < 2 ^ 62) ∧ RS ⟨(List.range (j - i).toNat).map fun k => .int (i + (k : Nat)), fun _ => True⟩ h2) : iRange2 ta tb δ h RS := q
theorem r_cutZ {ds : List D} {lo hi : Option Int} (q : R (.lst (cutD ds lo hi)) h) : fCut (.scr ds) lo hi h R := ⟨true, ds, rfl, q⟩
theorem r_cutL {ds : List D} {lo hi : Option Int} (q : R (.lst (cutD ds lo hi)) h) : fCut (.lst ds) lo hi h R := ⟨true, ds, rfl, q⟩
theorem r_cutT {ds : List D} {lo hi : Option Int} (q : R (.tup (cutD ds lo hi)) h) : fCut (.tup ds) lo hi h R := ⟨false, ds, rfl, q⟩
theorem r_cutR {ds : List D} {lo hi : Option Int} (e : h[n]? = some (.lst ds)) (q : R (.lst (cutD ds lo hi)) h) : fCut (.ref n) lo hi h R := ⟨true, ds, sqv_ref e, q⟩
theorem r_cutNR {ds : List D} {lo hi : Option Int} (e : h[n]? = some (.lst ds)) (q : R (.ref h.length) (h ++ [.lst (cutD ds lo hi)])) : fCutN (.ref n) lo hi h R := ⟨ds, sqv_ref e, q⟩
theorem cutD_mem {ds : List D} {lo hi : Option Int} {d : D} (m : d ∈ cutD ds lo hi) : d ∈ ds := List.mem_of_mem_drop (List.mem_of_mem_take m)
theorem r_ixS {s : Str} {c : Nat} {j : Int} (l : s.length ≤ sizeLine) (a : atI s.cps.toList j = some c) (q : R (.str ⟨#[c]⟩) h) : fIx (.str s) (.int j) h R := ⟨j, rfl, l, c, a, q⟩
theorem r_lc {si : TDI} {c : CTg} {vs : List Nat} (q : si δ h fun S h1 => ∃ Pv : Nat → List D → OS → Prop, Pv 0 [] h1 ∧ (∀ i acc h, i ≤ S.items.length → Pv i acc h → h.length = h1.length ∧ acc.length ≤ i ∧ okOs h.length h ∧ okRs h.length acc ∧ S.G (h ++ [.lst acc])) ∧ S.items.length < sizeLine ∧
  (∀ (i : Nat) d acc h, S.items[i]? = some d → Pv i acc h → c.put d (wipeD δ vs) fun δ2 => tt δ2 (h ++ [.lst acc]) fun b h3 =>
    if b = true then te δ2 h3 fun y h4 => ∃ h5 g, h4 = h5 ++ (.lst acc :: g) ∧ okOs h1.length h5 ∧ okR h1.length y ∧ Pv (i + 1) (acc ++ [y]) h5 else ∃ h5 g, h3 = h5 ++ (.lst acc :: g) ∧ okOs h1.length h5 ∧ Pv (i + 1) acc h5) ∧
  ∀ acc h, Pv S.items.length acc h → (fun acc h R => R (.lst acc) h) acc h R) : dLc si c tt te vs δ h R := q
theorem r_lcN {si : TDI} {c : CTg} {vs : List Nat} (q : si δ h fun S h1 => ∃ Pv : Nat → List D → OS → Prop, Pv 0 [] h1 ∧ (∀ i acc h, i ≤ S.items.length → Pv i acc h → h.length = h1.length ∧ acc.length ≤ i ∧ okOs h.length h ∧ okRs h.length acc ∧ S.G (h ++ [.lst acc])) ∧ S.items.length < sizeLine ∧
  (∀ (i : Nat) d acc h, S.items[i]? = some d → Pv i acc h → c.put d (wipeD δ vs) fun δ2 => tt δ2 (h ++ [.lst acc]) fun b h3 =>
    if b = true then te δ2 h3 fun y h4 => ∃ h5 g, h4 = h5 ++ (.lst acc :: g) ∧ okOs h1.length h5 ∧ okR h1.length y ∧ Pv (i + 1) (acc ++ [y]) h5 else ∃ h5 g, h3 = h5 ++ (.lst acc :: g) ∧ okOs h1.length h5 ∧ Pv (i + 1) acc h5) ∧
  ∀ acc h, Pv S.items.length acc h → (fun acc (h : OS) R => R (.ref h.length) (h ++ [.lst acc])) acc h R) : dLcN si c tt te vs δ h R := q
theorem r_dc {si : TDI} {c : CTg} {vs : List Nat} {tk : TDE} (q : dDcP si c tt tk te vs (fun acc h R => R (.dct (acc.map (·.1)) (acc.map (·.2))) h) δ h R) : dDc si c tt tk te vs δ h R := q
theorem r_dcN {si : TDI} {c : CTg} {vs : List Nat} {tk : TDE} (q : dDcP si c tt tk te vs (fun acc h R => R (.ref h.length) (h ++ [.dct acc])) δ h R) : dDcN si c tt tk te vs δ h R := q
theorem r_dcP {si : TDI} {c : CTg} {vs : List Nat} {tk : TDE} {fin : Qs → OS → DK → Prop} (q : si δ h fun S h1 => ∃ Pv : Nat → Qs → OS → Prop, Pv 0 [] h1 ∧ (∀ i acc h, i ≤ S.items.length → Pv i acc h → h.length = h1.length ∧ acc.length ≤ i ∧ okOs h.length h ∧ okRs h.length (acc.map (·.2)) ∧ S.G (h ++ [.dct acc])) ∧ S.items.length < sizeLine ∧
  (∀ (i : Nat) d acc h, S.items[i]? = some d → Pv i acc h → c.put d (wipeD δ vs) fun δ2 => tt δ2 (h ++ [.dct acc]) fun b h3 =>
    if b = true then tk δ2 h3 fun y h4 => te δ2 h4 fun z h4' => ∃ h5 g k, keyD y = some k ∧ h4' = h5 ++ (.dct acc :: g) ∧ okOs h1.length h5 ∧ okR h1.length z ∧ Pv (i + 1) (putQ acc k z) h5 else ∃ h5 g, h3 = h5 ++ (.dct acc :: g) ∧ okOs h1.length h5 ∧ Pv (i + 1) acc h5) ∧
  ∀ acc h, Pv S.items.length acc h → fin acc h R) : dDcP si c tt tk te vs fin δ h R := q
theorem r_yes {P : Bool → OS → Prop} (q : P true h) : dYes δ h P := q
theorem r_put1 {K : DS → Prop} (q : K (δ.set i (some d))) : CTg.put (.one i) d δ K := q
theorem r_putM {is : List Nat} {ds : List D} {K : DS → Prop} (e : ds.length = is.length) (q : K (setAll δ is ds)) : CTg.put (.many is) (.tup ds) δ K := ⟨ds, rfl, e, q⟩
/-- [f(x) for x in .. if p(x)], nothing changed -/
theorem r_lcp {S : Src} {c : CTg} {vs : List Nat} {Q : List D → OS → Prop} (f : D → D) (p : D → Bool) (ok1 : okOs h.length h) (okf : ∀ d ∈ S.items, p d = true → okR h.length (f d)) (hG : ∀ acc, S.G (h ++ [.lst acc])) (hsz : S.items.length < sizeLine)
    (step : ∀ (i : Nat) d acc, S.items[i]? = some d → okRs h.length acc → ∀ (Y : DK) (N : OS → Prop), (p d = true → ∀ g, Y (f d) (h ++ .lst acc :: g)) → (p d = false → ∀ g, N (h ++ .lst acc :: g)) →
      c.put d (wipeD δ vs) fun δ2 => tt δ2 (h ++ [.lst acc]) fun b h3 => if b = true then te δ2 h3 Y else N h3)
    (q : Q ((S.items.filter p).map f) h) :
    ∃ Pv : Nat → List D → OS → Prop, Pv 0 [] h ∧ (∀ i acc h', i ≤ S.items.length → Pv i acc h' → h'.length = h.length ∧ acc.length ≤ i ∧ okOs h'.length h' ∧ okRs h'.length acc ∧ S.G (h' ++ [.lst acc])) ∧ S.items.length < sizeLine ∧
      (∀ (i : Nat) d acc h', S.items[i]? = some d → Pv i acc h' → c.put d (wipeD δ vs) fun δ2 => tt δ2 (h' ++ [.lst acc]) fun b h3 =>
        if b = true then te δ2 h3 fun y h4 => ∃ h5 g, h4 = h5 ++ (.lst acc :: g) ∧ okOs h.length h5 ∧ okR h.length y ∧ Pv (i + 1) (acc ++ [y]) h5 else ∃ h5 g, h3 = h5 ++ (.lst acc :: g) ∧ okOs h.length h5 ∧ Pv (i + 1) acc h5) ∧
      ∀ acc h', Pv S.items.length acc h' → Q acc h' := by
  refine ⟨fun i acc h' => h' = h ∧ acc = ((S.items.take i).filter p).map f, ⟨rfl, rfl⟩, ?_, hsz, ?_, ?_⟩
  · rintro i acc h' hi ⟨rfl, rfl⟩
    refine ⟨rfl, ?_, ok1, ?_, hG _⟩
    · rw [List.length_map]
      refine Nat.le_trans (List.length_filter_le _ _) ?_
      rw [List.length_take]
      omega
    · refine okRs_iff.mpr fun y hy => ?_
      obtain ⟨d, hd, rfl⟩ := List.mem_map.mp hy
      obtain ⟨h1, h2⟩ := List.mem_filter.mp hd
      exact okf d (List.mem_of_mem_take h1) h2
  · rintro i d acc h' e ⟨rfl, rfl⟩
    have tk : S.items.take (i + 1) = S.items.take i ++ [d] := by
      rw [List.take_add_one, e]
      rfl
    have md : d ∈ S.items := List.mem_of_getElem? e
    have okacc : okRs h'.length (((S.items.take i).filter p).map f) := okRs_iff.mpr fun y hy => by
      obtain ⟨d, hd, rfl⟩ := List.mem_map.mp hy
      obtain ⟨h1, h2⟩ := List.mem_filter.mp hd
      exact okf d (List.mem_of_mem_take h1) h2
    refine step i d _ e okacc _ _ (fun pd g => ⟨h', g, rfl, ok1, okf d md pd, rfl, ?_⟩) (fun pd g => ⟨h', g, rfl, ok1, rfl, ?_⟩)
    · rw [tk, List.filter_append, List.map_append, List.filter_cons_of_pos pd]
      rfl
    · rw [tk, List.filter_append, List.map_append, List.filter_cons_of_neg (by rw [pd]; decide)]
      exact (List.append_nil _).symm
  · rintro acc h' ⟨rfl, rfl⟩
    rw [List.take_length]
    exact q
end
theorem mergeQ_snoc (qs more : Qs) (k : Key) (d : D) : mergeQ qs (more ++ [(k, d)]) = putQ (mergeQ qs more) k d := by
  unfold mergeQ
  rw [List.foldl_append]
  rfl
theorem mergeQ_len : ∀ (more qs : Qs), (mergeQ qs more).length ≤ qs.length + more.length
  | [], qs => Nat.le_refl _
  | p :: more, qs => by
    have h1 := mergeQ_len more (putQ qs p.1 p.2)
    have h2 := putQ_len qs p.1 p.2
    show (mergeQ (putQ qs p.1 p.2) more).length ≤ qs.length + (more.length + 1)
    omega
theorem mem_put {qs : Qs} {k : Key} {d : D} {q : Key × D} (h : q ∈ putQ qs k d) : q ∈ qs ∨ q = (k, d) := by
  unfold putQ at h
  split at h
  · obtain ⟨p, hp, e⟩ := List.mem_map.mp h
    by_cases z : p.1 = k
    · rw [if_pos z] at e
      right
      rw [← e, ← z]
    · rw [if_neg z] at e
      left
      rw [← e]
      exact hp
  · rcases List.mem_append.mp h with m | m
    · exact Or.inl m
    · exact Or.inr (List.mem_singleton.mp m)
theorem mem_merge : ∀ {more qs : Qs} {q : Key × D}, q ∈ mergeQ qs more → q ∈ qs ∨ q ∈ more
  | [], qs, q, h => Or.inl h
  | p :: more, qs, q, h => by
    have h' : q ∈ mergeQ (putQ qs p.1 p.2) more := h
    rcases mem_merge h' with m | m
    · rcases mem_put m with m | m
      · exact Or.inl m
      · exact Or.inr (by rw [m]; exact List.mem_cons_self ..)
    · exact Or.inr (List.mem_cons_of_mem _ m)
section
variable {δ : DS} {h : OS} {R : DK} {te tk : TDE} {tt : TDT}
theorem r_dcq {S : Src} {c : CTg} {vs : List Nat} {Q : Qs → OS → Prop} (kf : D → Key) (f : D → D) (ok1 : okOs h.length h) (okf : ∀ d ∈ S.items, okR h.length (f d)) (hG : ∀ acc, S.G (h ++ [.dct acc])) (hsz : S.items.length < sizeLine)
    (step : ∀ (i : Nat) d acc, S.items[i]? = some d → ∀ (Y : D → D → OS → Prop) (N : OS → Prop), (∀ (y : D) g, keyD y = some (kf d) → Y y (f d) (h ++ .dct acc :: g)) →
      c.put d (wipeD δ vs) fun δ2 => tt δ2 (h ++ [.dct acc]) fun b h3 => if b = true then tk δ2 h3 fun y h4 => te δ2 h4 fun z h5 => Y y z h5 else N h3)
    (q : Q (mergeQ [] (S.items.map fun d => (kf d, f d))) h) :
    ∃ Pv : Nat → Qs → OS → Prop, Pv 0 [] h ∧ (∀ i acc h', i ≤ S.items.length → Pv i acc h' → h'.length = h.length ∧ acc.length ≤ i ∧ okOs h'.length h' ∧ okRs h'.length (acc.map (·.2)) ∧ S.G (h' ++ [.dct acc])) ∧ S.items.length < sizeLine ∧
      (∀ (i : Nat) d acc h', S.items[i]? = some d → Pv i acc h' → c.put d (wipeD δ vs) fun δ2 => tt δ2 (h' ++ [.dct acc]) fun b h3 =>
        if b = true then tk δ2 h3 fun y h4 => te δ2 h4 fun z h4' => ∃ h5 g k, keyD y = some k ∧ h4' = h5 ++ (.dct acc :: g) ∧ okOs h.length h5 ∧ okR h.length z ∧ Pv (i + 1) (putQ acc k z) h5 else ∃ h5 g, h3 = h5 ++ (.dct acc :: g) ∧ okOs h.length h5 ∧ Pv (i + 1) acc h5) ∧
      ∀ acc h', Pv S.items.length acc h' → Q acc h' := by
  refine ⟨fun i acc h' => h' = h ∧ acc = mergeQ [] ((S.items.take i).map fun d => (kf d, f d)), ⟨rfl, rfl⟩, ?_, hsz, ?_, ?_⟩
  · rintro i acc h' hi ⟨rfl, rfl⟩
    refine ⟨rfl, ?_, ok1, ?_, hG _⟩
    · have := mergeQ_len ((S.items.take i).map fun d => (kf d, f d)) []
      rw [List.length_map, List.length_take, List.length_nil] at this
      omega
    · refine okRs_iff.mpr fun y hy => ?_
      obtain ⟨p, hp, rfl⟩ := List.mem_map.mp hy
      rcases mem_merge hp with m | m
      · cases m
      · obtain ⟨d, hd, rfl⟩ := List.mem_map.mp m
        exact okf d (List.mem_of_mem_take hd)
  · rintro i d acc h' e ⟨rfl, rfl⟩
    have tk' : S.items.take (i + 1) = S.items.take i ++ [d] := by
      rw [List.take_add_one, e]
      rfl
    have md : d ∈ S.items := List.mem_of_getElem? e
    refine step i d (mergeQ [] ((S.items.take i).map fun d => (kf d, f d))) e (fun y z h4' => ∃ h5 g k, keyD y = some k ∧ h4' = h5 ++ (.dct (mergeQ [] ((S.items.take i).map fun d => (kf d, f d))) :: g) ∧ okOs h'.length h5 ∧ okR h'.length z ∧ (h5 = h' ∧ putQ (mergeQ [] ((S.items.take i).map fun d => (kf d, f d))) k z = mergeQ [] ((S.items.take (i + 1)).map fun d => (kf d, f d)))) _ fun y g ky => ⟨h', g, kf d, ky, rfl, ok1, okf d md, rfl, ?_⟩
    rw [tk', List.map_append]
    exact (mergeQ_snoc _ _ _ _).symm
  · rintro acc h' ⟨rfl, rfl⟩
    rw [List.take_length]
    exact q
end
end FL
end
section
/-! Words of letters. -/
namespace FL
open PySem L2

abbrev abc : Str := "abcdefghijklmnopqrstuvwxyz"
theorem abc_is : abc.cps.toList = List.range' 97 26 := by decide +kernel
/-- the sign of a number -/
def sgn (c : Int) : Str := ⟨#[97 + c.toNat]⟩
theorem abc_at {c : Int} (h0 : 0 ≤ c) (h1 : c < 26) : atI abc.cps.toList c = some (97 + c.toNat) := by
  rw [abc_is]
  unfold atI
  rw [List.length_range', ix_in h0 h1]
  show (List.range' 97 26)[c.toNat]? = _
  rw [List.getElem?_range' (by omega)]
  simp
theorem r_abc {h : OS} {R : DK} {c : Int} (h0 : 0 ≤ c) (h1 : c < 26) (q : R (.str (sgn c)) h) : fIx (.str abc) (.int c) h R := r_ixS (by decide) (abc_at h0 h1) q
/-- the text of a word -/
def wordS (ws : List Int) : Str := ⟨(ws.map fun c => 97 + c.toNat).toArray⟩
theorem wordS_cps (ws : List Int) : (wordS ws).cps.toList = ws.map fun c => 97 + c.toNat := rfl
theorem wordS_len (ws : List Int) : (wordS ws).length = ws.length := by
  show (ws.map fun c => 97 + c.toNat).toArray.size = _
  simp
theorem wordS_one (c : Int) : wordS [c] = sgn c := rfl
theorem join_words : ∀ ws : List Int, Str.join ("" : Str) (ws.map sgn) = wordS ws
  | [] => rfl
  | [c] => rfl
  | c :: d :: r => by
    have ih := join_words (d :: r)
    show sgn c ++ ("" : Str) ++ Str.join ("" : Str) ((d :: r).map sgn) = _
    rw [ih]
    apply str_ext
    show ((sgn c).cps ++ ("" : Str).cps ++ (wordS (d :: r)).cps).toList = _
    rw [Array.toList_append, Array.toList_append, wordS_cps, wordS_cps]
    rfl
theorem join_word (ws : List Int) : Txt.join ("" : Str) (ws.map sgn) = wordS ws := by
  rw [TL.join_eq, join_words]
/-- a word: one to eight letters -/
structure WordOk (ws : List Int) : Prop where
  lo : 1 ≤ ws.length
  hi : ws.length ≤ 8
  ab : ∀ c ∈ ws, 0 ≤ c ∧ c < 26
theorem wordS_inj {as bs : List Int} (ha : ∀ c ∈ as, 0 ≤ c ∧ c < 26) (hb : ∀ c ∈ bs, 0 ≤ c ∧ c < 26) (e : wordS as = wordS bs) : as = bs := by
  have e1 : as.map (fun c => 97 + c.toNat) = bs.map (fun c => 97 + c.toNat) := by
    rw [← wordS_cps, ← wordS_cps, e]
  have key : ∀ (as bs : List Int), (∀ c ∈ as, 0 ≤ c ∧ c < 26) → (∀ c ∈ bs, 0 ≤ c ∧ c < 26) → as.map (fun c => 97 + c.toNat) = bs.map (fun c => 97 + c.toNat) → as = bs := by
    intro as
    induction as with
    | nil =>
      intro bs _ _ e
      cases bs with
      | nil => rfl
      | cons b bs => cases e
    | cons a as ih =>
      intro bs ha hb e
      cases bs with
      | nil => cases e
      | cons b bs =>
        rw [List.map_cons, List.map_cons, List.cons.injEq] at e
        have h1 := ha a (List.mem_cons_self ..)
        have h2 := hb b (List.mem_cons_self ..)
        rw [ih bs (fun c hc => ha c (List.mem_cons_of_mem _ hc)) (fun c hc => hb c (List.mem_cons_of_mem _ hc)) e.2]
        have : a = b := by omega
        rw [this]
  exact key as bs ha hb e1
theorem words_nodup {wss : List (List Int)} (nd : wss.Nodup) (ok : ∀ ws ∈ wss, WordOk ws) : (wss.map wordS).Nodup := by
  rw [List.nodup_iff_pairwise_ne, List.pairwise_map]
  rw [List.nodup_iff_pairwise_ne] at nd
  exact List.Pairwise.imp_of_mem (fun {a b} ha hb n e => n (wordS_inj (ok a ha).ab (ok b hb).ab e)) nd
/-- many different ones, by number -/
theorem nodup_range {α : Type} {f : Nat → α} {n : Nat} (h : ∀ i j, i < n → j < n → f i = f j → i = j) : ((List.range n).map f).Nodup := by
  rw [List.nodup_iff_pairwise_ne, List.pairwise_map]
  have := List.nodup_range (n := n)
  rw [List.nodup_iff_pairwise_ne] at this
  exact List.Pairwise.imp_of_mem (fun {a b} ha hb n e => n (h a b (List.mem_range.mp ha) (List.mem_range.mp hb) e)) this
/-- what a text of letters is, written out -/
structure NameS (s : Str) : Prop where
  lo : 1 ≤ s.length
  hi : s.length ≤ 8
  ab : ∀ c ∈ s.cps.toList, 97 ≤ c ∧ c ≤ 122
theorem WordOk.name {ws : List Int} (h : WordOk ws) : NameS (wordS ws) := by
  refine ⟨by rw [wordS_len]; exact h.lo, by rw [wordS_len]; exact h.hi, fun c hc => ?_⟩
  rw [wordS_cps] at hc
  obtain ⟨x, hx, rfl⟩ := List.mem_map.mp hc
  have := h.ab x hx
  omega
theorem NameS.sh {s : Str} (h : NameS s) : Sh (.str s) 82 0 := sh_str h.hi fun c hc => by
  have := (h.ab c hc).2
  exact Nat.lt_of_le_of_lt this (by decide)
theorem cut_to {ds : List D} {j : Int} (h : 0 ≤ j) : cutD ds none (some j) = ds.take j.toNat := by
  unfold cutD
  have e0 : HT.sIx ds.length 0 none = 0 := rfl
  rw [e0, List.drop_zero, Nat.sub_zero]
  have e1 : HT.sIx ds.length ds.length (some j) = min j.toNat ds.length := by
    unfold HT.sIx
    simp only
    split <;> omega
  rw [e1]
  by_cases z : j.toNat ≤ ds.length
  · rw [Nat.min_eq_left z]
  · rw [Nat.min_eq_right (by omega), List.take_length, List.take_of_length_le (by omega)]
theorem r_join {h : OS} {R : DK} {a : Str} {ss : List Str} (l : (ss.map (·.length)).sum + ss.length * a.length ≤ 16777216) (q : R (.str (Txt.join a ss)) h) : mJoin (.str a) [.lst (ss.map D.str)] h R := ⟨a, _, true, ss, rfl, rfl, rfl, l, q⟩
theorem sum_ones : ∀ ws : List Int, ((ws.map sgn).map (·.length)).sum = ws.length
  | [] => rfl
  | c :: ws => by
    rw [List.map_cons, List.map_cons, List.sum_cons, sum_ones ws, List.length_cons]
    show 1 + ws.length = ws.length + 1
    omega
theorem r_joinW {h : OS} {R : DK} {ws : List Int} (l : ws.length ≤ 100) (q : R (.str (wordS ws)) h) : mJoin (.str ("" : Str)) [.lst (ws.map fun c => D.str (sgn c))] h R := by
  have e : (ws.map fun c => D.str (sgn c)) = (ws.map sgn).map D.str := by
    rw [List.map_map]
    rfl
  rw [e]
  refine r_join ?_ ?_
  · rw [sum_ones, List.length_map]
    show ws.length + ws.length * 0 ≤ _
    omega
  · rw [join_word]
    exact q
/-- a def's end: what it made is forgotten -/
theorem ret_cut {R : DK} {m : Nat} {d : D} {h g : OS} (hm : m ≤ h.length) (ok : okOs h.length h) (okd : okR h.length d) (q : R d h) : Ret R m d (h ++ g) := Or.inr ⟨h, g, rfl, hm, ok, Or.inl ⟨okd, q⟩⟩
theorem okRs_ints {n : Nat} (us : List Int) : okRs n (us.map D.int) := okRs_iff.mpr fun d hd => by
  obtain ⟨x, _, rfl⟩ := List.mem_map.mp hd
  trivial
theorem okRs_strs {α : Type} {n : Nat} (f : α → Str) (us : List α) : okRs n (us.map fun x => D.str (f x)) := okRs_iff.mpr fun d hd => by
  obtain ⟨x, _, rfl⟩ := List.mem_map.mp hd
  trivial
theorem set_app {h g : OS} {i : Nat} {o : O} (l : i < h.length) : (h ++ g).set i o = h.set i o ++ g := List.set_append_left _ _ l
theorem filter_yes {α : Type} (l : List α) : l.filter (fun _ => true) = l := List.filter_eq_self.mpr fun _ _ => rfl
theorem look_tail {g r : OS} {n j : Nat} (e : g.length = n) : (g ++ r)[n + j]? = r[j]? := by
  subst e
  rw [List.getElem?_append_right (Nat.le_add_right _ _), Nat.add_sub_cancel_left]
theorem set_tail {g r : OS} {n j : Nat} {o : O} (e : g.length = n) : (g ++ r).set (n + j) o = g ++ r.set j o := by
  subst e
  rw [List.set_append_right _ _ (Nat.le_add_right _ _), Nat.add_sub_cancel_left]
theorem look_at {g r : OS} {n : Nat} {p : O} (e : g.length = n) : (g ++ p :: r)[n]? = some p := by
  subst e
  exact look_end
end FL
end
section
/-! Equality of data. -/
namespace FL
open PySem L2

theorem toPs_strs : ∀ ss : List Str, toPs (ss.map D.str) = some (ss.map PyData.str)
  | [] => rfl
  | s :: ss => by
    rw [List.map_cons, List.map_cons]
    unfold toPs
    rw [toPs_strs ss]
    rfl
theorem NameS.strOk {s : Str} (h : NameS s) : PyData.canLay0 (.str s) = true := by
  unfold PyData.canLay0 PyData.strOk
  rw [Array.all_eq_true]
  intro i hi
  have := (h.ab _ (Array.getElem_mem_toList hi)).2
  simp
  omega
theorem lay_strs : ∀ ss : List Str, (∀ s ∈ ss, NameS s) → PyData.canLayAll0 (ss.map PyData.str) = true
  | [], _ => rfl
  | s :: ss, h => by
    rw [List.map_cons]
    unfold PyData.canLayAll0
    rw [lay_strs ss fun x hx => h x (List.mem_cons_of_mem _ hx), (h s (List.mem_cons_self ..)).strOk]
    rfl
theorem depth_strs : ∀ ss : List Str, PyData.depthAll (ss.map PyData.str) = 0
  | [] => rfl
  | s :: ss => by
    rw [List.map_cons]
    unfold PyData.depthAll
    rw [depth_strs ss]
    rfl
theorem shaped_strs {ss : List Str} (h : ∀ s ∈ ss, NameS s) : SeqAt.shaped (.list (ss.map PyData.str)) = true := by
  unfold SeqAt.shaped
  unfold PyData.canLay0 PyData.depth
  rw [lay_strs ss h, depth_strs]
  rfl
theorem r_neNil {h : OS} {R : DK} {ss : List Str} (ok : ∀ s ∈ ss, NameS s) (q : R (.bl (!ss.isEmpty)) h) : fNe (.lst (ss.map D.str)) (.lst []) h R := by
  refine ⟨.list (ss.map PyData.str), .list [], ?_, rfl, shaped_strs ok, rfl, ?_⟩
  · show (toPs (ss.map D.str)).map PyData.list = _
    rw [toPs_strs]
    rfl
  · have e : PyData.eqv (.list (ss.map PyData.str)) (.list []) = ss.isEmpty := by
      cases ss with
      | nil => rfl
      | cons s ss => rfl
    rw [e]
    exact q
end FL
end
section
/-! zip(a, b, strict=True) of lists and tuples of one length. -/
namespace FL
open PySem PySem.Spec PyProof.Rows L2
abbrev IsZipS (h : Heap) (z TI TO : Addr) (f0 : Value) : Prop :=
  h.get? z = some { cls := .type "zip", dict := none, data := .fields #[f0, .bool false, .bool true, .ref TI, .ref TO], slots := #[] }
section
variable {prog : Program} {w : World} {A : Around} {E : Value → Shared → Prop} {s : Shared} {z TI TO i1 i2 : Addr} {fp1 fp2 : List Addr} {n1 n2 i : Nat} {P1 P2 : Nat → Value → Prop} {St1 St2 : Nat → Heap → Prop} {a1 a2 : Value}
theorem drawS {it : Addr} {fp : List Addr} {n : Nat} {P : Nat → Value → Prop} {St : Nat → Heap → Prop} {Q : Option Value → Shared → Prop} (D : Draws prog w A it fp n P St) (hlt : i < n) (st : St i s.heap)
    (hQ : ∀ x h' tk, P i x → St (i + 1) h' → Heap.SameBut it s.heap h' → Q (some x) { s with heap := h', toks := tk }) : wpAny (model prog w) A (Builtin.SmallTypes.nextOrEnd (.ref it)) Q E s := by
  unfold Builtin.SmallTypes.nextOrEnd
  refine wpAny_bind (wpAny_attempt (D.item i s _ _ hlt st fun x h' tk p st' sb => ?_))
  exact wpAny_pure (hQ x h' tk p st' sb)
theorem endS {it : Addr} {fp : List Addr} {n : Nat} {P : Nat → Value → Prop} {St : Nat → Heap → Prop} {Q : Option Value → Shared → Prop} (D : Draws prog w A it fp n P St) (st : St n s.heap)
    (hQ : ∀ h', Heap.ExtBut it s.heap h' → Q none { s with heap := h' }) : wpAny (model prog w) A (Builtin.SmallTypes.nextOrEnd (.ref it)) Q E s := by
  unfold Builtin.SmallTypes.nextOrEnd
  refine wpAny_bind (wpAny_attempt (D.done s _ _ st fun h' e hx he => ?_))
  obtain ⟨o, ho, hc⟩ := he
  refine wpAny_bind (wpAny_isInstance (T := "StopIteration") (b := true) ⟨o, ho, hc⟩ isSubtype_stop ?_)
  exact wpAny_pure (hQ h' hx)
theorem zipS_next_item {Q : Value → Shared → Prop} (S : ZipSep2 z TI TO i1 i2 fp1 fp2) (D1 : Draws prog w A i1 fp1 n1 P1 St1) (D2 : Draws prog w A i2 fp2 n2 P2 St2)
    (hz : IsZipS s.heap z TI TO .none) (hTI : IsTupOf2 s.heap TI (.ref i1) (.ref i2)) (hTO : IsTupOf2 s.heap TO a1 a2) (st1 : St1 i s.heap) (st2 : St2 i s.heap) (hlt1 : i < n1) (hlt2 : i < n2)
    (hQ : ∀ x1 x2 h' tk, P1 i x1 → P2 i x2 → IsZipS h' z TI TO (rawInt s.heap.objs.size) → IsTupOf2 h' TO x1 x2 → St1 (i + 1) h' → St2 (i + 1) h' → IsTupOf2 h' s.heap.objs.size x1 x2 → h'.objs.size = s.heap.objs.size + 1 →
      (∀ c o, c ≠ z → c ≠ TO → c ≠ i1 → c ≠ i2 → s.heap.get? c = some o → h'.get? c = some o) → Q (.ref s.heap.objs.size) { s with heap := h', toks := tk }) :
    wpAny (model prog w) A (Builtin.«zip.__next__» ⟨[.ref z], []⟩) (fun fin s' => ∃ v, fin = .done (.ret v) ∧ Q v s') E s := by
  obtain ⟨hp, g, d, tk0, os⟩ := s
  show wpAny _ _ (field (.ref z) 2 >>= _) _ _ _
  refine wpAny_bind (wpAny_field hz rfl (x := .bool true) rfl ?_)
  show wpAny _ _ (field (.ref z) 3 >>= _) _ _ _
  refine wpAny_bind (wpAny_field hz rfl (x := .ref TI) rfl ?_)
  refine wpAny_bind (wpAny_seqItems hTI rfl ?_)
  show wpAny _ _ (Builtin.SmallTypes.ownedTupleIsFree (.ref z) >>= _) _ _ _
  refine wpAny_bind ?_
  unfold Builtin.SmallTypes.ownedTupleIsFree
  refine wpAny_bind (wpAny_field hz rfl (x := .none) rfl (wpAny_pure ?_))
  simp only [if_true]
  refine wpAny_bind (wpAny_rule ?_)
  refine wpAny_bind (wpAny_field hz rfl (x := .ref TO) rfl ?_)
  refine wpAny_bind (wpAny_setField_rec hz (by simp) fun g0 hz0 hs0 => ?_)
  replace hz0 : IsZipS g0 z TI TO .ellipsis := hz0
  replace hs0 : Heap.SameBut z hp g0 := hs0
  refine wpAny_bind ?_
  simp only [List.zipIdx_cons, List.zipIdx_nil, List.forIn_cons, List.forIn_nil]
  refine wpAny_bind (wpAny_bind (wpAny_onRaise ?_))
  show wpAny _ _ (Builtin.SmallTypes.nextOrEnd (.ref i1)) _ _ ⟨g0, g, d, tk0, os⟩
  refine drawS D1 hlt1 (D1.over st1 hs0 S.zf1) fun x1 p1 tk1 hx1 sn1 hp1 => ?_
  replace hp1 : Heap.SameBut i1 g0 p1 := hp1
  have hU1 : IsTupOf2 p1 TO a1 a2 := hp1.extBut _ _ S.Ti1 (hs0.extBut _ _ S.TOz hTO)
  refine wpAny_bind (wpAny_seqItems (s := ⟨p1, g, d, tk1, os⟩) hU1 rfl ?_)
  refine wpAny_bind (updateSeq_IsTupOf2 (s := ⟨p1, g, d, tk1, os⟩) hU1 fun g1 hT1 hs1 => ?_)
  replace hT1 : IsTupOf2 g1 TO x1 a2 := hT1
  replace hs1 : Heap.SameBut TO p1 g1 := hs1
  refine wpAny_bind (wpAny_letGo (wpAny_pure ?_))
  refine wpAny_bind (wpAny_bind (wpAny_onRaise ?_))
  show wpAny _ _ (Builtin.SmallTypes.nextOrEnd (.ref i2)) _ _ ⟨g1, g, d, tk1, os⟩
  refine drawS D2 hlt2 (D2.over (D2.over (D2.over st2 hs0 S.zf2) hp1 S.sep1_2) hs1 S.Tf2) fun x2 p2 tk2 hx2 sn2 hp2 => ?_
  replace hp2 : Heap.SameBut i2 g1 p2 := hp2
  have hU2 : IsTupOf2 p2 TO x1 a2 := hp2.extBut _ _ S.Ti2 hT1
  refine wpAny_bind (wpAny_seqItems (s := ⟨p2, g, d, tk2, os⟩) hU2 rfl ?_)
  refine wpAny_bind (updateSeq_IsTupOf2 (s := ⟨p2, g, d, tk2, os⟩) hU2 fun g2 hT2 hs2 => ?_)
  replace hT2 : IsTupOf2 g2 TO x1 x2 := hT2
  replace hs2 : Heap.SameBut TO p2 g2 := hs2
  refine wpAny_bind (wpAny_letGo (wpAny_pure (wpAny_pure ?_)))
  refine wpAny_bind (wpAny_seqItems (s := ⟨g2, g, d, tk2, os⟩) hT2 rfl ?_)
  refine wpAny_bind (wpAny_newTuple ?_)
  have hsz : g2.objs.size = hp.objs.size := by rw [hs2.1, hp2.1, hs1.1, hp1.1, hs0.1]
  have hzz : IsZipS g2 z TI TO .ellipsis := (hs2.extBut _ _ S.TOz.symm (hp2.extBut _ _ S.zi2 (hs1.extBut _ _ S.TOz.symm (hp1.extBut _ _ S.zi1 hz0))))
  have hkk : ∀ c o, c ≠ z → c ≠ TO → c ≠ i1 → c ≠ i2 → hp.get? c = some o → g2.get? c = some o := fun c o cz cT c1 c2 e =>
    (hs2.extBut _ _ cT (hp2.extBut _ _ c2 (hs1.extBut _ _ cT (hp1.extBut _ _ c1 (hs0.extBut _ _ cz e)))))
  have hj1 : St1 (i + 1) g2 := (D1.over (D1.over (D1.over sn1 hs1 S.Tf1) hp2 S.sep2_1) hs2 S.Tf1)
  have hj2 : St2 (i + 1) g2 := (D2.over sn2 hs2 S.Tf2)
  have hzlt : z < g2.objs.size := Heap.lt_size hzz
  show wpAny _ _ (Builtin.SmallTypes.ownedTupleHandOut (.ref z) (.ref g2.objs.size) >>= _) _ _ ⟨g2.push { cls := .type "tuple", data := .seq #[x1, x2] }, g, d, tk2, os⟩
  refine wpAny_bind ?_
  unfold Builtin.SmallTypes.ownedTupleHandOut
  have hz₆ : IsZipS (g2.push { cls := .type "tuple", data := .seq #[x1, x2] }) z TI TO .ellipsis := Heap.get?_push_of_some _ hzz
  refine wpAny_bind (wpAny_setField_rec hz₆ (by simp) fun h₇ hz₇ hs₇ => ?_)
  replace hz₇ : IsZipS h₇ z TI TO (rawInt g2.objs.size) := hz₇
  refine wpAny_setField_rec hz₇ (by simp) fun h₈ hz₈ hs₈ => ?_
  replace hz₈ : IsZipS h₈ z TI TO (rawInt g2.objs.size) := hz₈
  replace hs₇ : Heap.SameBut z (g2.push { cls := .type "tuple", data := .seq #[x1, x2] }) h₇ := hs₇
  replace hs₈ : Heap.SameBut z h₇ h₈ := hs₈
  have up : ∀ c o, c ≠ z → g2.get? c = some o → h₈.get? c = some o := fun c o c1 e => hs₈.extBut _ _ c1 (hs₇.extBut _ _ c1 (Heap.get?_push_of_some _ e))
  have hT₈ : IsTupOf2 h₈ g2.objs.size x1 x2 := hs₈.extBut _ _ (Nat.ne_of_gt hzlt) (hs₇.extBut _ _ (Nat.ne_of_gt hzlt) (Heap.get?_push_size _ rfl))
  have hz8 : h₈.objs.size = g2.objs.size + 1 := by rw [hs₈.1, hs₇.1, Heap.size_push]
  rw [hsz] at hz₈ hT₈ hz8
  refine wpAny_pure ⟨_, rfl, ?_⟩
  show Q (.ref g2.objs.size) ⟨h₈, g, d, tk2, os⟩
  rw [hsz]
  exact hQ x1 x2 h₈ tk2 hx1 hx2 hz₈ (up _ _ S.TOz hT2) (D1.frame _ _ _ hj1 fun b hb o e => up b o (fun q => S.zf1 (q ▸ hb)) e) (D2.frame _ _ _ hj2 fun b hb o e => up b o (fun q => S.zf2 (q ▸ hb)) e) hT₈ hz8 fun c o cz cT c1 c2 e => up c o cz (hkk c o cz cT c1 c2 e)
theorem zipS_next_end {Q : Fin → Shared → Prop} (hh : A.handled = none) (S : ZipSep2 z TI TO i1 i2 fp1 fp2) (D1 : Draws prog w A i1 fp1 n1 P1 St1) (D2 : Draws prog w A i2 fp2 n2 P2 St2)
    (hz : IsZipS s.heap z TI TO .none) (hTI : IsTupOf2 s.heap TI (.ref i1) (.ref i2)) (hTO : IsTupOf2 s.heap TO a1 a2) (st1 : St1 i s.heap) (st2 : St2 i s.heap) (h1 : i = n1) (h2 : i = n2)
    (hE : ∀ h' e, (∀ c o, c ≠ z → c ≠ TO → c ≠ i1 → c ≠ i2 → s.heap.get? c = some o → h'.get? c = some o) → (∃ o, h'.get? e = some o ∧ o.cls = .type "StopIteration") → E (.ref e) { s with heap := h' }) :
    wpAny (model prog w) A (Builtin.«zip.__next__» ⟨[.ref z], []⟩) Q E s := by
  obtain ⟨hp, g, d, tk0, os⟩ := s
  subst h1
  subst h2
  show wpAny _ _ (field (.ref z) 2 >>= _) _ _ _
  refine wpAny_bind (wpAny_field hz rfl (x := .bool true) rfl ?_)
  show wpAny _ _ (field (.ref z) 3 >>= _) _ _ _
  refine wpAny_bind (wpAny_field hz rfl (x := .ref TI) rfl ?_)
  refine wpAny_bind (wpAny_seqItems hTI rfl ?_)
  show wpAny _ _ (Builtin.SmallTypes.ownedTupleIsFree (.ref z) >>= _) _ _ _
  refine wpAny_bind ?_
  unfold Builtin.SmallTypes.ownedTupleIsFree
  refine wpAny_bind (wpAny_field hz rfl (x := .none) rfl (wpAny_pure ?_))
  simp only [if_true]
  refine wpAny_bind (wpAny_rule ?_)
  refine wpAny_bind (wpAny_field hz rfl (x := .ref TO) rfl ?_)
  refine wpAny_bind (wpAny_setField_rec hz (by simp) fun g0 hz0 hs0 => ?_)
  replace hz0 : IsZipS g0 z TI TO .ellipsis := hz0
  replace hs0 : Heap.SameBut z hp g0 := hs0
  refine wpAny_bind ?_
  simp only [List.zipIdx_cons, List.zipIdx_nil, List.forIn_cons, List.forIn_nil]
  refine wpAny_bind (wpAny_bind (wpAny_onRaise ?_))
  show wpAny _ _ (Builtin.SmallTypes.nextOrEnd (.ref i1)) _ _ ⟨g0, g, d, tk0, os⟩
  refine endS D1 (D1.over st1 hs0 S.zf1) fun p1 hp1 => ?_
  replace hp1 : Heap.ExtBut i1 g0 p1 := hp1
  have hz1 : IsZipS p1 z TI TO .ellipsis := hp1 _ _ S.zi1 hz0
  refine wpAny_bind (wpAny_setField_rec (s := ⟨p1, g, d, tk0, os⟩) hz1 (by simp) fun g1 hz1' hs1 => ?_)
  replace hs1 : Heap.SameBut z p1 g1 := hs1
  refine wpAny_bind ?_
  show wpAny _ _ (((Builtin.SmallTypes.nextOrEnd (.ref i2) >>= _) >>= _) >>= _) _ _ ⟨g1, g, d, tk0, os⟩
  refine wpAny_bind (wpAny_bind (wpAny_bind (endS D2 (D2.frame _ _ _ st2 fun b hb o e => ?_) fun p2 hp2 => ?_)))
  · exact hs1.extBut b o (fun q => S.zf2 (q ▸ hb)) (hp1 b o (fun q => S.sep1_2 (q ▸ hb)) (hs0.extBut b o (fun q => S.zf2 (q ▸ hb)) e))
  replace hp2 : Heap.ExtBut i2 g1 p2 := hp2
  refine wpAny_pure (wpAny_pure (wpAny_bind (wpAny_rule ?_)))
  show wpAny _ _ (newExc (.type "StopIteration") [] >>= _) _ _ ⟨p2, g, d, tk0, os⟩
  refine wpAny_bind ?_
  simp only [newExc, newTuple]
  refine wpAny_bind (wpAny_newObj_type ?_ (by size_fits))
  refine wpAny_bind (m := firstArgMember _ _) (wpAny_of_eq (a := Value.none) (by first | rfl | (simp only [firstArgMember]; rfl)) ?_)
  refine wpAny_newObj_type ?_ (by size_fits)
  simp only [raiseNew]
  refine wpAny_bind (wpAny_handled ?_)
  rw [hh]
  refine wpAny_bind (wpAny_pure (wpAny_throw ?_))
  refine hE _ _ (fun c o cz cT c1 c2 e => ?_) ⟨_, Heap.get?_push_size _ rfl, rfl⟩
  exact Heap.get?_push_of_some _ (Heap.get?_push_of_some _ (hp2 _ _ c2 (hs1.extBut _ _ cz (hp1 _ _ c1 (hs0.extBut _ _ cz e)))))
theorem pyNext_zipS_item {Q : Option Value → Shared → Prop} (S : ZipSep2 z TI TO i1 i2 fp1 fp2) (D1 : Draws prog w A.in1 i1 fp1 n1 P1 St1) (D2 : Draws prog w A.in1 i2 fp2 n2 P2 St2)
    (hz : IsZipS s.heap z TI TO .none) (hTI : IsTupOf2 s.heap TI (.ref i1) (.ref i2)) (hTO : IsTupOf2 s.heap TO a1 a2) (st1 : St1 i s.heap) (st2 : St2 i s.heap) (hlt1 : i < n1) (hlt2 : i < n2)
    (hQ : ∀ x1 x2 h' tk, P1 i x1 → P2 i x2 → IsZipS h' z TI TO (rawInt s.heap.objs.size) → IsTupOf2 h' TO x1 x2 → St1 (i + 1) h' → St2 (i + 1) h' → IsTupOf2 h' s.heap.objs.size x1 x2 → h'.objs.size = s.heap.objs.size + 1 →
      (∀ c o, c ≠ z → c ≠ TO → c ≠ i1 → c ≠ i2 → s.heap.get? c = some o → h'.get? c = some o) → Q (some (.ref s.heap.objs.size)) { s with heap := h', toks := tk }) :
    wpAny (model prog w) A (pyNext (.ref z)) Q E s := by
  have hT : s.TypeIs (.ref z) "zip" := ⟨_, hz, rfl⟩
  unfold pyNext
  exact wpAny_bind (wpAny_attempt (wpAny_callSpecial?_slot (name := Str.ofString "__next__") hT F.slot_zip_next
    (wpAny_call_entry F.slot_zip_next hT F.entry_zip_next
      (zipS_next_item S D1 D2 hz hTI hTO st1 st2 hlt1 hlt2 fun x1 x2 h' tk y1 y2 b1 b2 d1 d2 b5 b6 b7 => wpAny_pure (hQ x1 x2 h' tk y1 y2 b1 b2 d1 d2 b5 b6 b7)) (F.args_zip_next_1 _))))
theorem pyNext_zipS_end {Q : Option Value → Shared → Prop} (hh : A.handled = none) (S : ZipSep2 z TI TO i1 i2 fp1 fp2) (D1 : Draws prog w A.in1 i1 fp1 n1 P1 St1) (D2 : Draws prog w A.in1 i2 fp2 n2 P2 St2)
    (hz : IsZipS s.heap z TI TO .none) (hTI : IsTupOf2 s.heap TI (.ref i1) (.ref i2)) (hTO : IsTupOf2 s.heap TO a1 a2) (st1 : St1 i s.heap) (st2 : St2 i s.heap) (h1 : i = n1) (h2 : i = n2)
    (hQ : ∀ h', (∀ c o, c ≠ z → c ≠ TO → c ≠ i1 → c ≠ i2 → s.heap.get? c = some o → h'.get? c = some o) → Q none { s with heap := h' }) : wpAny (model prog w) A (pyNext (.ref z)) Q E s := by
  have hT : s.TypeIs (.ref z) "zip" := ⟨_, hz, rfl⟩
  unfold pyNext
  refine wpAny_bind (wpAny_attempt (wpAny_callSpecial?_slot (name := Str.ofString "__next__") hT F.slot_zip_next
    (wpAny_call_entry F.slot_zip_next hT F.entry_zip_next (zipS_next_end (show A.in1.handled = none from hh) S D1 D2 hz hTI hTO st1 st2 h1 h2 fun h' e hk he => ?_) (F.args_zip_next_1 _))))
  obtain ⟨o, ho, hc⟩ := he
  refine wpAny_bind (wpAny_isInstance (T := "StopIteration") (b := true) ⟨o, ho, hc⟩ isSubtype_stop ?_)
  exact wpAny_pure (hQ _ hk)
theorem letGo_zipS {elts : List Expr} {x1} {pos : Pos} {T : Addr} {Q : Unit → Shared → Prop} (hz : IsZipS s.heap z TI TO (rawInt T))
    (hQ : ∀ h', IsZipS h' z TI TO .none → Heap.SameBut z s.heap h' → Q () { s with heap := h' }) :
    wpAny (model prog w) A (letOwnedTupleGo (.Tuple elts x1 pos) (.ref z) (.ref T)) Q E s := by
  unfold letOwnedTupleGo
  refine wpAny_bind (wpAny_load hz ?_)
  show wpAny _ _ (if (["enumerate", "zip", "dict_itemiterator", "dict_reverseitemiterator", "odict_iterator", "itertools.zip_longest", "itertools.pairwise"].contains "zip" &&
      (#[rawInt T, .bool false, .bool true, .ref TI, .ref TO] : Array Value)[0]? == some (rawInt T)) = true then _ else _) Q E s
  rw [if_pos (by simp)]
  refine wpAny_bind (wpAny_rule ?_)
  show wpAny _ _ (setField (.ref z) 0 .none) Q E s
  exact wpAny_setField_rec hz (by simp) fun h' hz' hs' => hQ h' hz' hs'
theorem pyIter_zipS {f0 : Value} {Q : Value → Shared → Prop} (hz : IsZipS s.heap z TI TO f0) (h : Q (.ref z) s) : wpAny (model prog w) A (pyIter (.ref z)) Q E s := by
  have hT : s.TypeIs (.ref z) "zip" := ⟨_, hz, rfl⟩
  refine wpAny_pyIter_slot hT F.slot_zip_iter (wpAny_call_entry F.slot_zip_iter hT F.entry_zip_iter ?_ (F.args_zip_iter_1 _))
  show wpAny _ _ (ret (.ref z)) _ _ s
  exact wpAny_pure ⟨_, rfl, "zip", _, hT, F.slot_zip_next.lookup, h⟩
end
/-! ### its making -/
theorem typeCall_zipS (a b : Value) : checkTypeCall "zip" ⟨[a, b], [(Str.ofString "strict", .bool true)]⟩ = pure () := by kernel_rfl
theorem newCall_zipS (a b : Value) : checkBuiltinCall "zip.__new__" ⟨[.type "zip", a, b], [(Str.ofString "strict", .bool true)]⟩ = pure () := by kernel_rfl
theorem args_initS (obj a b : Value) : argsOk "object.__init__" ⟨[obj, a, b], [(Str.ofString "strict", .bool true)]⟩ := by unfold argsOk; kernel_rfl
abbrev gzZS (h : Heap) (o1 o2 : Obj) : Heap := (gzO2 h o1 o2).push { cls := .type "zip", data := .fields #[.none, .bool false, .bool true, .ref ((h.push o1).push o2).objs.size, .ref (gzT2 h o1 o2).objs.size] }
theorem meets_zipS {v1 v2 : Value} {o1 o2 : Obj} {H1 H2 : Heap → Prop} (B1 : Begins v1 o1 H1) (B2 : Begins v2 o2 H2) :
    Meets (Builtin.«zip.__new__» ⟨[.type "zip", v1, v2], [(Str.ofString "strict", .bool true)]⟩) (fun _ R s => (H1 s.heap ∧ H2 s.heap) ∧
      R (.ok (.ret (.ref (gzO2 s.heap o1 o2).objs.size))) { s with heap := gzZS s.heap o1 o2 }) :=
  .of_wp fun prog w A R s h => by
    obtain ⟨hp, g, d, tk, os⟩ := s; obtain ⟨⟨h1, h2⟩, h⟩ := h
    have hsub := sub_zip
    have q1 : ∀ {A' : Around} {E : Value → Shared → Prop} {Q : Value → Shared → Prop}, Q (.ref hp.objs.size) ⟨(hp.push o1), g, d, tk, os⟩ → wpAny (model prog w) A' (pyIter v1) Q E ⟨hp, g, d, tk, os⟩ :=
      fun q => B1.iter prog w _ _ ⟨hp, g, d, tk, os⟩ _ (B1.keeps _ _ h1 fun b o' e => e) q
    have q2 : ∀ {A' : Around} {E : Value → Shared → Prop} {Q : Value → Shared → Prop}, Q (.ref (hp.push o1).objs.size) ⟨((hp.push o1).push o2), g, d, tk, os⟩ → wpAny (model prog w) A' (pyIter v2) Q E ⟨(hp.push o1), g, d, tk, os⟩ :=
      fun q => B2.iter prog w _ _ ⟨(hp.push o1), g, d, tk, os⟩ _ (B2.keeps _ _ h2 fun b o' e => (Heap.get?_push_of_some _ e)) q
    have e1 : (Str.ofString "strict" != ("strict" : Str)) = false := by decide +kernel
    wp_walk using q1, q2
    exact ⟨_, rfl, h⟩
end FL
end
section
/-! sorted(set(texts)). -/
namespace FL
open PySem PySem.Spec PyProof.Rows L2
def kyS (e : Int × Value) : Str := match e.2 with | .str k _ => k | _ => Str.empty
def GdS (w : World) (e : Int × Value) : Prop := ∃ k tk, e.2 = Value.str k tk ∧ e.1 = hashStr w k
/-- at a a set of just the texts of l -/
structure SetS (w : World) (h : Heap) (a : Addr) (es : Array (Int × Value)) (t : SetTable) (ep : Nat) (l : List Str) : Prop where
  at_ : ∃ o, h.get? a = some o ∧ o.ExactSet ∧ o.data = .set es ep t
  gd : ∀ e ∈ es.toList, GdS w e
  nd : (es.toList.map kyS).Nodup
  mem : ∀ k, k ∈ l ↔ k ∈ es.toList.map kyS
  few : es.size ≤ l.length
  fit : t.fits es.size = true
  ris : Ris t.place.toList
  led : w.params.followText "set-order" = true ∨ t.led = true
section
variable {P : Program} {w : World} {A : Around} {E : Value → Shared → Prop} {s : Shared} {a : Addr} {l : List Str} {es : Array (Int × Value)} {t : SetTable} {ep : Nat}
theorem isS (k : Str) (u : Tok) : (PySem.strKind P w).is k (.str k u) = true := by
  show Value.isStrOf k (.str k u) = true
  simp [Value.isStrOf]
theorem gdS_elems {l : List (Int × Value)} (g : ∀ e ∈ l, GdS w e) : ElemsOf (PySem.strKind P w) l := fun e he => by
  obtain ⟨k, tk, h1, h2⟩ := g e he
  refine ⟨⟨k, ?_, h2⟩, ?_⟩
  · rw [h1]
    exact isS k tk
  · rw [h1]
    rfl
theorem gdS_is {e : Int × Value} (g : GdS w e) (k : Str) : (PySem.strKind P w).is k e.2 = true ↔ kyS e = k := by
  obtain ⟨k0, tk, h1, _⟩ := g
  unfold kyS
  rw [h1]
  show Value.isStrOf k (.str k0 tk) = true ↔ k0 = k
  simp [Value.isStrOf]
theorem gdS_mem {l : List (Int × Value)} (g : ∀ e ∈ l, GdS w e) (k : Str) : k ∈ l.map kyS ↔ ∃ e ∈ l, (PySem.strKind P w).is k e.2 = true := by
  constructor
  · intro h
    obtain ⟨e, he, q⟩ := List.mem_map.mp h
    exact ⟨e, he, (gdS_is (g e he) k).mpr q⟩
  · rintro ⟨e, he, q⟩
    exact List.mem_map.mpr ⟨e, he, (gdS_is (g e he) k).mp q⟩
theorem SetS.keep {h h' : Heap} (R : SetS w h a es t ep l) (k : ∀ o, h.get? a = some o → h'.get? a = some o) : SetS w h' a es t ep l := by
  obtain ⟨o, ho, r⟩ := R.at_
  exact ⟨⟨o, k o ho, r⟩, R.gd, R.nd, R.mem, R.few, R.fit, R.ris, R.led⟩
theorem put_at {h : Heap} {o : Obj} {es es' : Array (Int × Value)} {ep : Nat} {t t' : SetTable} (ho : h.get? a = some o) (hd : o.data = .set es ep t) : (h.update a (Obj.putSet es' t')).get? a = some { o with data := .set es' (ep + 1) t' } := store_at ho hd
/-- how an add ends -/
theorem setS_tail {g : Bool → Sem Unit} (hg : ∀ (b : Bool) (s₁ : Shared) (Q' : Unit → Shared → Prop), Q' () s₁ → wpAny (model P w) A (g b) Q' E s₁)
    {o : Obj} (ho : s.heap.get? a = some o) (hex : o.ExactSet) (hd : o.data = .set es ep t) {es1 : Array (Int × Value)} {t2 : SetTable} {l' : List Str}
    (g1 : ∀ e ∈ es1.toList, GdS w e) (n1 : (es1.toList.map kyS).Nodup) (m1 : ∀ k, k ∈ l' ↔ k ∈ es1.toList.map kyS) (f1 : es1.size ≤ l'.length) (hb : l'.length < scanBound) (ft : t2.fits es1.size = true) (rs : Ris t2.place.toList) (ld : w.params.followText "set-order" = true ∨ t2.led = true)
    {wasDummy : Bool} {R : Option Bool → Shared → Prop} (hR : ∀ h' es' t' ep', Heap.SameBut a s.heap h' → SetS w h' a es' t' ep' l' → R (some true) { s with heap := h' }) :
    wpAny (model P w) A (do
        storeSet a es1 t2
        if (!wasDummy && t2.tooFull) = true then do
            g (relayAll t2 es1 (SetTable.grown es1.size)).2.2
            storeSet a (relayAll t2 es1 (SetTable.grown es1.size)).1 (relayAll t2 es1 (SetTable.grown es1.size)).2.1
            pure (some true)
          else pure (some true)) R E s := by
  have b1 : es1.size < scanBound := Nat.lt_of_le_of_lt f1 hb
  refine wpAny_bind (wpAny_storeSet_of ho hd ?_ (fits_of_scanBound b1))
  have ho1 := store_at (es' := es1) (t' := t2) ho hd
  have sb := Heap.SameBut.update s.heap a (Obj.putSet es1 t2)
  split
  · have pm := relayAll_perm t2 es1 (SetTable.grown es1.size)
    have h3 := relayAll_fits t2 es1 (SetTable.grown es1.size)
    have h4 := relayAll_ris t2 es1 (SetTable.grown es1.size)
    have h5 := relayAll_led t2 es1 (SetTable.grown es1.size)
    generalize relayAll t2 es1 (SetTable.grown es1.size) = Z at pm h3 h4 h5 ⊢
    obtain ⟨es2, t3, gave⟩ := Z
    dsimp only at pm h3 h4 h5 ⊢
    have hz : es2.size = es1.size := by
      have := pm.length_eq
      simpa using this
    refine wpAny_bind (hg _ _ _ (wpAny_bind (wpAny_storeSet_of ho1 rfl ?_ (fits_of_scanBound (by rw [hz]; exact b1)))))
    have ho2 := store_at (es' := es2) (t' := t3) ho1 rfl
    refine wpAny_pure (hR _ es2 t3 _ (sb.trans (Heap.SameBut.update _ a _)) ⟨⟨_, ho2, hex, rfl⟩, fun e he => g1 e (pm.mem_iff.mp he), (pm.map kyS).nodup_iff.mpr n1, fun k => (m1 k).trans (pm.map kyS).mem_iff.symm, by rw [hz]; exact f1, h3, h4, ld.imp id fun z => by rw [h5]; exact z⟩)
  · exact wpAny_pure (hR _ es1 t2 _ sb ⟨⟨_, ho1, hex, rfl⟩, g1, n1, m1, f1, ft, rs, ld⟩)
theorem setS_add {k : Str} {tk : Tok} {Q : Bool → Shared → Prop} (R : SetS w s.heap a es t ep l) (room : l.length + 1 < scanBound)
    (hQ : ∀ b h' es' t' ep', Heap.SameBut a s.heap h' → SetS w h' a es' t' ep' (l ++ [k]) → Q b { s with heap := h' }) :
    wpAny (model P w) A (setAddHashed a (.str k tk) ((PySem.strKind P w).hash k)) Q E s := by
  obtain ⟨o, ho, hex, hd⟩ := R.at_
  have hkey : (PySem.strKind P w).is k (.str k tk) = true := isS k tk
  have hsc : (Value.str k tk).scannable = true := rfl
  have hb : es.size < scanBound := by
    have := R.few
    omega
  have hel : ElemsOf (PySem.strKind P w) es.toList := gdS_elems R.gd
  unfold setAddHashed setAddHashedIn
  refine wpAny_holding (wpAny_bind (wpAny_setState_of ho hd R.fit ?_))
  dsimp only
  rw [byScan_of hsc hb hel]
  simp only [↓reduceIte]
  unfold setAddByScan
  refine wpAny_bind (wpAny_bind (wpAny_rule (wpAny_bind (wpAny_setScan_of hkey ho hd R.fit hel ?_))))
  cases hfi : List.findIdx? (fun e => (PySem.strKind P w).is k e.2) es.toList with
  | some j =>
    dsimp only
    obtain ⟨hj, pj, _⟩ := List.findIdx?_eq_some_iff_getElem.mp hfi
    have hk : k ∈ l := (R.mem k).mpr ((gdS_mem (P := P) R.gd k).mpr ⟨_, List.getElem_mem hj, pj⟩)
    refine wpAny_pure (wpAny_pure (hQ _ s.heap es t ep (Heap.SameBut.refl a s.heap) ⟨⟨o, ho, hex, hd⟩, R.gd, R.nd, fun i => ?_, ?_, R.fit, R.ris, R.led⟩))
    · rw [← R.mem i]
      constructor
      · intro h
        rcases List.mem_append.mp h with z | z
        · exact z
        · rw [List.mem_singleton.mp z]
          exact hk
      · exact fun h => List.mem_append_left _ h
    · have := R.few
      rw [List.length_append]
      omega
  | none =>
    dsimp only
    have hnk : k ∉ es.toList.map kyS := fun z => by
      obtain ⟨e, he, q⟩ := (gdS_mem (P := P) R.gd k).mp z
      have c := List.findIdx?_eq_none_iff.mp hfi e he
      rw [q] at c
      cases c
    have hgw : ∀ (b : Bool) {s₁ : Shared} {Q' : Unit → Shared → Prop}, Q' () s₁ → wpAny (model P w) A (match b with | true => rule "set.scan.the-table-gave-way" | false => pure ()) Q' E s₁ :=
      fun b s₁ Q' q => by cases b <;> first | exact wpAny_pure q | exact wpAny_rule q
    have pm := layNew_perm t es ((PySem.strKind P w).hash k) (.str k tk)
    have k1 := layNew_fits t es ((PySem.strKind P w).hash k) (.str k tk)
    have k2 := layNew_ris t es ((PySem.strKind P w).hash k) (.str k tk) R.ris
    have k3 := layNew_led t es ((PySem.strKind P w).hash k) (.str k tk)
    generalize layNew t es ((PySem.strKind P w).hash k) (.str k tk) = Z at pm k1 k2 k3 ⊢
    obtain ⟨es1, t1, wasDummy, gave⟩ := Z
    dsimp only at pm k1 k2 k3 ⊢
    rw [Array.toList_push] at pm
    have pc : es1.toList.Perm (((PySem.strKind P w).hash k, Value.str k tk) :: es.toList) := pm.trans (List.perm_append_singleton _ _)
    have pk : (es1.toList.map kyS).Perm (k :: es.toList.map kyS) := pc.map kyS
    have g1 : ∀ e ∈ es1.toList, GdS w e := fun e he => by
      rcases List.mem_cons.mp (pc.mem_iff.mp he) with z | z
      · rw [z]
        exact ⟨k, tk, rfl, rfl⟩
      · exact R.gd e z
    have n1 : (es1.toList.map kyS).Nodup := pk.nodup_iff.mpr (List.nodup_cons.mpr ⟨hnk, R.nd⟩)
    have m1 : ∀ i, i ∈ l ++ [k] ↔ i ∈ es1.toList.map kyS := fun i => by
      rw [pk.mem_iff, List.mem_cons, List.mem_append, List.mem_singleton, R.mem i]
      exact Or.comm
    have hz : es1.size = es.size + 1 := by
      have := pc.length_eq
      simpa using this
    have f1 : es1.size ≤ (l ++ [k]).length := by
      have := R.few
      rw [hz, List.length_append]
      exact Nat.succ_le_succ this
    have b1 : (l ++ [k]).length < scanBound := by rw [List.length_append]; exact room
    have ld : w.params.followText "set-order" = true ∨ t1.led = true := R.led.imp id fun z => by rw [k3]; exact z
    refine wpAny_bind (hgw _ ?_)
    split
    · refine wpAny_bind ?_
      rw [hashByValue_scannable 8 hsc]
      refine wpAny_pure ?_
      refine setS_tail ?_ ho hex hd g1 n1 m1 f1 b1 ?_ ?_ ?_ ?_
      · intro b s₁ Q' q; cases b <;> first | exact wpAny_pure q | exact wpAny_rule q
      · first | (split <;> first | exact k1 | exact SetTable.fits_plain_off k1) | exact k1
      · first | (split <;> exact k2) | exact k2
      · first | (split <;> exact ld) | exact ld
      · intro h' es' t' ep' sb r; dsimp only; exact wpAny_pure (hQ _ h' es' t' ep' sb r)
    · refine wpAny_bind (wpAny_pure ?_)
      simp only [↓reduceIte]
      refine setS_tail ?_ ho hex hd g1 n1 m1 f1 b1 k1 k2 ld ?_
      · intro b s₁ Q' q; cases b <;> first | exact wpAny_pure q | exact wpAny_rule q
      · intro h' es' t' ep' sb r; dsimp only; exact wpAny_pure (hQ _ h' es' t' ep' sb r)
theorem setS_fresh {h : Heap} (ho : h.get? a = some { cls := .type "set", dict := none, data := .set #[] 0 (.fresh 0 0 (!w.params.followText "set-order")) }) : SetS w h a #[] (.fresh 0 0 (!w.params.followText "set-order")) 0 [] :=
  ⟨⟨_, ho, ⟨rfl, rfl, rfl⟩, rfl⟩, fun e he => by simp at he, by simp, fun k => by simp, Nat.le_refl _, by rfl, List.Pairwise.nil, by
    show _ ∨ (!w.params.followText "set-order") = true
    cases w.params.followText "set-order"
    · exact .inr rfl
    · exact .inl rfl⟩
/-- the loop of set.update -/
theorem set_update_txs {I : Addr} {fp wr : List Addr} {G : Array GenState → Array GenState → Prop} {n : Nat} {Pv : Nat → Value → Prop} {St : Nat → Shared → Prop} {R : Result → Shared → Prop}
    (W : WalksS P w A.in1 I fp wr G n Pv St) (S : Addr) (hSf : S ∉ fp) (xs : List Str) (hn : n = xs.length) (few : xs.length < 1000) (hval : ∀ i v, Pv i v → ∃ k tk, xs[i]? = some k ∧ v = .str k tk) :
    ∀ (k i : Nat) (s : Shared), n - i = k → i ≤ n → St i s → (∃ es t ep, SetS w s.heap S es t ep (xs.take i)) →
      (∀ s' es t ep, Moved (S :: wr) G s s' → SetS w s'.heap S es t ep xs → R (.ok (.ret .none)) s') →
      codeAny (model P w) A (.builtin "set.update.loop" ⟨[.ref S, .ref I], []⟩) R s := by
  have hSw : S ∉ wr := fun h => hSf (W.sub _ h)
  have hsub : ∀ b ∈ wr, b ∈ S :: wr := fun b hb => List.mem_cons_of_mem _ hb
  intro k
  induction k with
  | zero =>
    intro i s hk' hi hst ⟨es, t, ep, hS⟩ hR
    have hin : i = n := by omega
    subst hin
    rw [hn, List.take_length] at hS
    refine codeAny_builtin F.entry_set_update_loop ?_
    rw [Around.under_plainId F.plain_set_update_loop _]
    show wpAny _ A.in1 (pyNext (.ref I) >>= _) _ _ s
    refine wpAny_bind (W.done s _ _ hst fun s' hm => ?_)
    show wpAny _ A.in1 (ret Value.none) _ _ s'
    exact wpAny_pure (hR s' es t ep (hm.mono hsub) (hS.keep fun o e => hm.heap S o hSw e))
  | succ k ih =>
    intro i s hk' hi hst ⟨es, t, ep, hS⟩ hR
    have hlt : i < n := by omega
    refine codeAny_builtin F.entry_set_update_loop ?_
    rw [Around.under_plainId F.plain_set_update_loop _]
    show wpAny _ A.in1 (pyNext (.ref I) >>= _) _ _ s
    refine wpAny_bind (W.item i s _ _ hlt hst fun v s' hP hst' hm => ?_)
    obtain ⟨x, tk, hx, rfl⟩ := hval i v hP
    have hS' := hS.keep fun o e => hm.heap S o hSw e
    show wpAny _ A.in1 (holding [Value.str x tk] (setAdd S (.str x tk)) >>= _) _ _ s'
    refine wpAny_bind (wpAny_holding ?_)
    unfold setAdd
    refine wpAny_holding ?_
    refine wpAny_bind ((PySem.strKind P w).pyHash (k := x) (isS x tk) ?_)
    have tl : (xs.take i).length = i := by
      rw [List.length_take]
      omega
    refine setS_add (s := { s' with toks := s'.toks + 1 }) hS' (by rw [tl]; unfold scanBound; omega) fun b h' es' t' ep' hsb hS2 => ?_
    have tk1 : xs.take i ++ [x] = xs.take (i + 1) := by
      rw [List.take_add_one, hx]
      rfl
    rw [tk1] at hS2
    refine wpAny_pure ⟨plainId_quiet F.plain_set_update_loop _, ih (i + 1) _ (by omega) hlt (W.frame _ s' _ _ hst' (Nat.le_succ _) fun b hb o e => ?_) ⟨es', t', ep', hS2⟩ fun s'' es'' t'' ep'' hm'' hS'' => ?_⟩
    · rw [hsb.2 b (fun h : b = S => hSf (by rw [← h]; exact hb))]
      exact e
    · refine hR s'' es'' t'' ep'' (Moved.trans W.gtrans ((hm.mono hsub).then_heap (Nat.le_succ _) fun b o hb e => ?_) hm'') hS''
      rw [hsb.2 b (fun h : b = S => hb (by rw [h]; exact List.mem_cons_self))]
      exact e
theorem strs_get : ∀ {vs : List Value} {xs : List Str}, StrsAre vs xs → ∀ (i : Nat) (v : Value), vs[i]? = some v → ∃ k tk, xs[i]? = some k ∧ v = .str k tk
  | _, _, .nil, i, v, h => by simp at h
  | _, _, .cons n t hr, 0, v, h => by
    cases h
    exact ⟨n, t, rfl, rfl⟩
  | _, _, .cons n t hr, i + 1, v, h => strs_get hr i v h
set_option maxHeartbeats 8000000 in
/-- set(xs) of texts -/
theorem call_set_txs {l : Addr} {items : Array Value} (xs : List Str) {Q : Value → Shared → Prop} (hh : A.handled = none) (hl : s.heap.IsList l items) (hit : StrsAre items.toList xs) (few : xs.length < 1000)
    (h : ∀ (h' : Heap) (tk : Nat) es t ep, SetS w h' s.heap.objs.size es t ep xs → (∀ b o, s.heap.get? b = some o → h'.get? b = some o) → Q (.ref s.heap.objs.size) { s with heap := h', toks := tk }) :
    wpAny (model P w) A (call (.type "set") [.ref l]) Q E s := by
  have hisz : items.size = xs.length := by
    have q := hit.length
    rw [Array.length_toList] at q
    exact q
  obtain ⟨c, tl, hmro⟩ := F.called_set.mro
  have hmade := F.called_set.made
  have hsub := F.called_set.sub
  refine wpAny_call (codeAny_of_tree ?_)
  show wpAny _ _ (callAny (.type "set") _) _ _ _
  refine wpAny_pure ⟨Code.quiet_builtin _ (by decide +kernel), codeAny_builtin F.entry_type_call ?_⟩
  rw [Around.under_plain (weight_type_call_type "set" [.ref l] []) rfl]
  have h1 := F.called_set.notType
  have h2 := F.called_set.canCreate
  have hct := F.typeCall_set_1 (.ref l)
  repeat (any_goals (first | assumption | wp_step))
  obtain ⟨S0, eS0⟩ : ∃ S0 : Obj, S0 = { cls := .type "set", dict := none, data := .set #[] 0 (.fresh 0 0 (!w.params.followText "set-order")) } := ⟨_, rfl⟩
  refine codeAny_mono (code_set_led1 (.ref l) (E := E) (Q₁ := fun obj s₁ => obj = .ref s.heap.objs.size ∧ s₁ = { s with heap := s.heap.push S0 }) ⟨rfl, by rw [eS0]⟩) fun r s₁ hr => ?_
  cases r with
  | error e => exact hr
  | ok fl =>
    cases fl with
    | ret obj =>
      obtain ⟨rfl, rfl⟩ := hr
      have hS : (s.heap.push S0).get? s.heap.objs.size = some S0 := Heap.get?_push_size _ (by rw [eS0]; rfl)
      have hT : Shared.TypeIs { s with heap := s.heap.push S0 } (.ref s.heap.objs.size) "set" := ⟨_, hS, by rw [eS0]⟩
      have hli := F.called_set.init.lookup
      have hbi := F.called_set.init.bind (.ref s.heap.objs.size)
      repeat (any_goals (first | assumption | wp_step))
      subst eS0
      refine codeAny_mono (codeAny_call_builtin (R := wants (fun r s₂ => r = .none ∧ ∃ h' tk es t ep, s₂ = { s with heap := h', toks := tk } ∧ SetS w h' s.heap.objs.size es t ep xs ∧ (∀ b o, s.heap.get? b = some o → h'.get? b = some o)) E) F.called_set.init.plain F.entry_set_init (check_set_init_1 hT ?_)) fun r₂ s₂ hr₂ => ?_
      · obtain ⟨ol, hol, hcl, nl, hdl⟩ := hl
        obtain ⟨ocls, odict, odata, oslots⟩ := ol
        simp only at hcl hdl
        subst hcl; subst hdl
        have hol' : (s.heap.push { cls := .type "set", dict := none, data := .set #[] 0 (.fresh 0 0 (!w.params.followText "set-order")) }).get? l = some { cls := .type "list", dict := odict, data := .seq items nl, slots := oslots } := Heap.get?_push_of_some _ hol
        have hsls := F.sub_list_set
        have hslf := F.sub_list_frozenset
        have hne : (Value.type "list" == Value.type "dict") = false := by decide
        have hl1 : (s.heap.push { cls := .type "set", dict := none, data := .set #[] 0 (.fresh 0 0 (!w.params.followText "set-order")) }).IsList l items := ⟨_, hol', rfl, nl, rfl⟩
        unfold Builtin.«set.__init__» noKeywords Builtin.Frozenset.updateFrom
        generalize hPI : pyIter = PI
        wp_walk
        subst hPI
        refine wpAny_pyIter_list hl1 ?_
        refine wpAny_bind (wpAny_runValue ?_)
        have hlS : l < s.heap.objs.size := Heap.lt_size hol
        have hh3 : A.in1.in1.in1.handled = none := by simp [hh]
        have hneI : l ≠ (s.heap.push { cls := .type "set", dict := none, data := .set #[] 0 (.fresh 0 0 (!w.params.followText "set-order")) }).objs.size := by
          rw [Heap.size_push]
          exact Nat.ne_of_lt (Nat.lt_succ_of_lt hlS)
        have hSf : s.heap.objs.size ∉ [(s.heap.push { cls := .type "set", dict := none, data := .set #[] 0 (.fresh 0 0 (!w.params.followText "set-order")) }).objs.size, l] := by
          rw [Heap.size_push]
          simp only [List.mem_cons, List.not_mem_nil, or_false, not_or]
          exact ⟨Nat.ne_of_lt (Nat.lt_succ_self _), Nat.ne_of_gt hlS⟩
        have hget : ((s.heap.push { cls := .type "set", dict := none, data := .set #[] 0 (.fresh 0 0 (!w.params.followText "set-order")) }).push { cls := .type "list_iterator", data := .fields #[.ref l, .int 0 0] }).get? s.heap.objs.size = some { cls := .type "set", dict := none, data := .set #[] 0 (.fresh 0 0 (!w.params.followText "set-order")) } := Heap.get?_push_of_some _ hS
        refine set_update_txs ((Walks.list hh3 _ l hneI items).toS) s.heap.objs.size hSf xs hisz few (fun i v hv => strs_get hit i v (by rw [Array.getElem?_toList]; exact hv)) (items.size - 0) 0 _ (by omega) (Nat.zero_le _)
          ⟨⟨_, Heap.get?_push_size _ rfl, rfl, rfl⟩, (hl1.push _)⟩ ⟨#[], _, 0, setS_fresh hget⟩ fun s' es t ep hm hS' => ?_
        obtain ⟨h', g2, d', tk', os'⟩ := s'
        have eg : g2 = s.gens := hm.gens
        have ed : d' = s.drawn := hm.drawn
        have eo : os' = s.os := hm.os
        subst eg; subst ed; subst eo
        have old : ∀ b o, s.heap.get? b = some o → h'.get? b = some o := fun b o e => by
          have bl := Heap.lt_size e
          refine hm.heap b o (fun hb => ?_) (Heap.get?_push_of_some _ (Heap.get?_push_of_some _ e))
          rcases List.mem_cons.mp hb with z | z
          · exact Nat.ne_of_lt bl z
          · have z' := List.mem_singleton.mp z
            rw [Heap.size_push] at z'
            exact Nat.not_lt.mpr (Nat.le_succ _) (z' ▸ bl)
        show wpAny _ _ _ _ _ _
        refine wpAny_pure ?_
        show wpAny _ _ (ret Value.none) _ _ _
        exact wpAny_pure ⟨rfl, h', tk', es, t, ep, rfl, hS', old⟩
      · cases r₂ with
        | error e => exact hr₂
        | ok fl₂ =>
          cases fl₂ with
          | ret r =>
            obtain ⟨rfl, h', tk, es, t, ep, rfl, hS', hk'⟩ := hr₂
            repeat (any_goals (first | assumption | wp_step))
            exact h _ _ _ _ _ hS' hk'
          | _ => exact hr₂.elim
    | _ => exact hr.elim
end
end FL
end
section
/-! sorted(set(texts)), over data; xs.pop(i); d.get(k). -/
namespace FL
open PySem PySem.Spec PyProof.Rows L2
section
variable {P : Program} {w : World} {A : Around} {E : Value → Shared → Prop} {s : Shared} {a : Addr} {l : List Str} {es : Array (Int × Value)} {t : SetTable} {ep : Nat}
theorem gdS_strs {w : World} : ∀ {es : List (Int × Value)}, (∀ e ∈ es, GdS w e) → StrsAre (es.map (·.2)) (es.map kyS)
  | [], _ => .nil
  | e :: es, g => by
    obtain ⟨k, tk, h1, _⟩ := g e (List.mem_cons_self ..)
    have := gdS_strs (es := es) fun x hx => g x (List.mem_cons_of_mem _ hx)
    have hk : kyS e = k := by
      unfold kyS
      rw [h1]
    rw [List.map_cons, List.map_cons, hk, h1]
    exact .cons k tk this
theorem strs_perm {vs us : List Value} (p : vs.Perm us) : ∀ {xs : List Str}, StrsAre us xs → ∃ ys, StrsAre vs ys ∧ ys.Perm xs := by
  induction p with
  | nil =>
    intro xs r
    cases r
    exact ⟨[], .nil, .refl _⟩
  | cons x p ih =>
    intro xs r
    cases r with
    | cons n t r =>
      obtain ⟨ys, h1, h2⟩ := ih r
      exact ⟨n :: ys, .cons n t h1, h2.cons _⟩
  | swap x y l =>
    intro xs r
    cases r with
    | cons n t r =>
      cases r with
      | cons m u r => exact ⟨m :: n :: _, .cons m u (.cons n t r), .swap _ _ _⟩
  | trans p q ih1 ih2 =>
    intro xs r
    obtain ⟨ys, h1, h2⟩ := ih2 r
    obtain ⟨zs, h3, h4⟩ := ih1 h1
    exact ⟨zs, h3, h4.trans h2⟩
theorem sorted_setS {Q : Value → Shared → Prop} (R : SetS w s.heap a es t ep l) (hh : A.handled = none) (h64 : l.length < 64)
    (hQ : ∀ s' p (out : Array Value) (c : Nat) (ss : List Str), (∀ b o, s.heap.get? b = some o → s'.heap.get? b = some o) → s'.gens = s.gens → s'.os = s.os → s.heap.objs.size ≤ p →
      s'.heap.get? p = some (seqObj "list" out c) → StrsAre out.toList ss → sortedS ss = true → ss.Nodup → (∀ k, k ∈ ss ↔ k ∈ l) → Q (.ref p) s') :
    wpAny (model P w) A (call (.builtin "sorted") [.ref a]) Q E s := by
  obtain ⟨o, ho, hex, hd⟩ := R.at_
  have few : es.size < scanBound := by
    have := R.few
    unfold scanBound
    omega
  refine Calls.call_function_entry kind_sorted plain_sorted entry_sorted (args_sorted1 _) ?_
  unfold Builtin.«sorted»
  refine wpAny_bind (m := checkCount "sorted" 1 1 _) (wpAny_pure ?_)
  refine wpAny_bind (collect_set (A := A.in1) hh ⟨o, ho, hex.1, hd⟩ R.fit few R.ris R.led fun s1 vs k1 hz g1 o1 pm => ?_)
  obtain ⟨ys, hS, py⟩ := strs_perm pm (gdS_strs R.gd)
  have hvl : vs.length < 64 := by
    rw [pm.length_eq, List.length_map, Array.length_toList]
    have := R.few
    omega
  refine wpAny_bind (wpAny_newList ?_ (by rw [sizeLine_eq]; omega))
  have hoL : (s1.heap.push (seqObj "list" vs.toArray 0)).get? s1.heap.objs.size = some (seqObj "list" vs.toArray 0) := Heap.get?_push_size _ rfl
  refine wpAny_bind (wpAny_holding (wpAny_call_entry slot_list_sort ⟨_, hoL, rfl⟩ entry_list_sort (list_sort_treeK strKind_oneLt hoL hS.keysOf (fun v₁ v₂ rest e => keyKind_strs (by rw [← e]; exact hS)) hvl fun st' hp hs => ⟨_, rfl, ?_⟩) (args_list_sort _)))
  obtain ⟨ss, h1, h2, h3⟩ := sorted_out_str hS hp hs
  obtain ⟨c, hc⟩ := sortedHeap_at (vs := vs) (out := (arrOf st').map (·.2)) hoL
  have pe : ss.Perm (es.toList.map kyS) := h2.trans py
  refine wpAny_pure ⟨_, rfl, hQ _ s1.heap.objs.size _ c ss (fun b u e => ?_) g1 o1 hz hc h1 h3 (pe.nodup_iff.mpr R.nd) fun k => by rw [pe.mem_iff, ← R.mem k]⟩
  have q := k1 b u e
  have hlt := Heap.lt_size q
  show (sortedHeap (s1.heap.push (seqObj "list" vs.toArray 0)) s1.heap.objs.size vs _).get? b = some u
  rw [sortedHeap_old (Nat.ne_of_lt hlt) (by rw [size_push']; exact Nat.lt_succ_of_lt hlt)]
  exact Heap.get?_push_of_some _ q
end
theorem nodup_sub : ∀ (ss xs : List Str), ss.Nodup → (∀ k ∈ ss, k ∈ xs) → ss.length ≤ xs.length
  | [], _, _, _ => Nat.zero_le _
  | a :: r, xs, nd, h => by
    have h1 := h a (List.mem_cons_self ..)
    have nd' := List.nodup_cons.mp nd
    have ih := nodup_sub r (xs.erase a) nd'.2 fun k hk => (List.mem_erase_of_ne (fun (z : k = a) => nd'.1 (by rw [← z]; exact hk))).mpr (h k (List.mem_cons_of_mem _ hk))
    have h2 := List.length_erase_of_mem h1
    have h3 := List.length_pos_of_mem h1
    rw [List.length_cons]
    omega
def tSortSet (K : PySem.W.Frag) (ta : TE) : TE := fun σ H Q => ta σ H fun x H1 => ∃ l, ∃ xs : List Str, x = .ref l ∧ SqL K H1 l (xs.map V.str) ∧ xs.length < 64 ∧
  ∀ (ss : List Str) (p : Addr), sortedS ss = true → ss.Nodup → (∀ k, k ∈ ss ↔ k ∈ xs) → H1 p = none → Q (.ref p) (upd H1 p (.lst (ss.map V.str)))
section
variable {X : Cx} {e : Expr} {ta : TE} {te : TDE} {p p2 q pos : Pos}
theorem pe_sortSet (hc : X.calm = true) (hg : Gl X "sorted") (hm : X.mg "sorted" = none) (hg2 : Gl X "set") (hm2 : X.mg "set" = none) (ha : PE X e ta)
    (na : starEach [e] X.env = (false, eval e X.env) :: starEach [] X.env := by rfl) : PE X (.Call (.Name "sorted" p) [.Call (.Name "set" p2) [e] [] q] [] pos) (tSortSet X.K ta) := by
  refine ⟨fun pins s σ H Q I h => ?_⟩
  refine Call_ (ld_blt I hg hm boot_sorted ?_)
  refine PyProof.Rows.callWith_builtin1 (PyProof.Rows.args_cons ?_ rfl) rfl rfl
  refine Call_ (ld_blt I hg2 hm2 boot_set ?_)
  refine PyProof.Rows.callWith_type1 (PyProof.Rows.args_cons (thn (ha.run pins s σ H _ I h) fun v s1 ⟨x, H1, I1, r1, q1⟩ => PyProof.Rows.args_nil ?_) na) na rfl
  obtain ⟨l, xs, rfl, hq, h1, q1⟩ := q1
  cases r1
  obtain ⟨its, r, pl, hz⟩ := I1.list hq
  refine call_set_txs xs (I1.ok.hd hc) pl.isList (by simpa using r.strs) (by omega) fun h' tk es t ep hS hk => PyProof.Rows.args_nil ?_
  have I2 : Inv X pins σ H1 { s1 with heap := h', toks := tk } := I1.kept hk
  refine sorted_setS hS (I2.ok.hd hc) h1 fun s' p out c ss k g o hp hg' hi hs hn hm' => ?_
  have hlen : (ss.map V.str).length ≤ sizeLine := by
    rw [List.length_map, sizeLine_eq]
    have : ss.length ≤ xs.length := nodup_sub ss xs hn fun k hk => (hm' k).mp hk
    omega
  have hn' : H1 p = none := I2.hok.fresh hp
  have J : Inv X pins σ (upd H1 p (.lst (ss.map V.str))) { ({ s1 with heap := h', toks := tk } : Shared) with heap := s'.heap, gens := s'.gens, drawn := s'.drawn, toks := s'.toks } :=
    I2.call (ch := []) (Un.laid k hp hn') (I2.hok.laid k hp ⟨hlen, out.toList, c, vals_of_strs hi, hg'⟩) (by rw [g]; exact I2.bare) (fun _ z => nomatch z)
  have e : s' = { ({ s1 with heap := h', toks := tk } : Shared) with heap := s'.heap, gens := s'.gens, drawn := s'.drawn, toks := s'.toks } := by
    cases s'
    cases o
    rfl
  rw [e]
  exact ⟨.ref p, _, J, rfl, q1 ss p hs hn hm' hn'⟩
/-- sorted(set(texts)) -/
def dSortSet (te : TDE) : TDE := fun δ h R => te δ h fun x h1 => ∃ xs : List Str, sqv h1 x = some (true, xs.map D.str) ∧ xs.length < 64 ∧ ∀ ss : List Str, upTx ss → ss.Nodup → (∀ k, k ∈ ss ↔ k ∈ xs) → R (.lst (ss.map D.str)) h1
theorem d_sortSet (hc : X.calm = true) (hg : Gl X "sorted") (hm : X.mg "sorted" = none) (hg2 : Gl X "set") (hm2 : X.mg "set" = none) (he : DE X e te)
    (na : starEach [e] X.env = (false, eval e X.env) :: starEach [] X.env := by rfl) : DE X (.Call (.Name "sorted" p) [.Call (.Name "set" p2) [e] [] q] [] pos) (dSortSet te) := by
  refine PE.imp (pe_sortSet hc hg hm hg2 hm2 he na) fun σ H Q ⟨I, δ, h, R, sr, hr, ht, go⟩ => ?_
  refine ⟨I, δ, h, _, sr, hr, ht, fun x h1 I1 H1 v ⟨xs, e1, l64, hR⟩ s1 hr1 rx => ?_⟩
  obtain ⟨p, vs, rfl, hs, rs⟩ := sqv_ok hr1 rx e1
  have := rs.strs
  subst this
  rcases hs with ⟨_, hs⟩ | ⟨hk, _⟩
  · exact ⟨p, xs, rfl, hs, l64, fun ss b so nd mm hb => (go.after s1).lst (hR ss (up_sorted so) nd mm) hr1 (rds_strs ss) b hb⟩
  · cases hk
end
/-! ### xs.pop(i) -/
def mPopAt : FM := fun x ds h R => ∃ n i es k y, x = .ref n ∧ ds = [.int i] ∧ h[n]? = some (.lst es) ∧ -(2 ^ 63) ≤ i ∧ i < 2 ^ 63 ∧ ixN es.length i = some k ∧ es[k]? = some y ∧ R y (h.set n (.lst (es.eraseIdx k)))
theorem RDs.erase {K : Fg} {H : Hp} {I : List Addr} : ∀ {ds : List D} {vs : List V} (k : Nat), RDs K H I ds vs → RDs K H I (ds.eraseIdx k) (vs.eraseIdx k)
  | _, _, _, .nil => .nil
  | _, _, 0, .cons _ r => r
  | _, _, k + 1, .cons a r => .cons a (RDs.erase k r)
section
variable {X : Cx}
theorem o_popAt : MtR X "list.pop" (upM X.K mPopAt) := by
  intro pins s σ H x xs v us Q J rv r ⟨I, dx, ds, h, R, hr, rx, rd, ⟨n, i, es, k, y, e1, e2, e3, i0, i1, e4, e5, hR⟩, go⟩
  subst e1 e2
  obtain ⟨a, rfl, q⟩ := rx.refv
  obtain ⟨w, rfl, rw'⟩ := rd.one
  cases rw'
  obtain ⟨ws, q2, r2⟩ := hr.ob n a _ q e3
  obtain ⟨yv, ey, ry⟩ := r2.get e5
  have m : a ∈ I := List.mem_of_getElem? q
  have s1 : Stp I H I (upd H a (.lst (ws.eraseIdx k))) := Stp.put m ⟨_, q2, trivial⟩
  refine mt_popAt pins s σ H _ _ v us Q J rv r ⟨a, ws, i, k, yv, rfl, rfl, q2, i0, i1, by rw [← r2.length]; exact (ixN_seq e4).1, ey, ?_⟩
  exact go _ _ I _ _ hR s1 (hr.put q ⟨_, upd_same, (r2.erase k).step s1⟩) (ry.step s1)
end
/-! ### d.get(k) -/
def dDGet1 (td ty : TDE) : TDE := fun δ h R => td δ h fun x h1 => (∃ qs, dcv h1 x = some qs) ∧ ty δ h1 fun y h2 => ∃ qs k, dcv h2 x = some qs ∧ keyD y = some k ∧ R ((valD qs k).getD .non) h2
section
variable {X : Cx} {o e : Expr} {td ty : TDE} {apos cpos : Pos}
theorem d_dget1 (hu : X.A.units + 64 < cLine) (ho : DE X o td) (he : DE X e ty) (m : M1 X o "get" apos e cpos := by exact ⟨rfl, rfl, rfl, rfl⟩) : DE X (.Call (.Attribute o "get" apos) [e] [] cpos) (dDGet1 td ty) := by
  refine PE.imp (pe_dget1 (u1 hu) ho he m) fun σ H Q ⟨I, δ, h, R, sr, hr, q, g⟩ => ?_
  refine ⟨I, δ, h, _, sr, hr, q, fun dx h1 I1 H1 x ⟨⟨qs0, e0⟩, q1⟩ s1 hr1 rx => ?_⟩
  obtain ⟨a, kvs0, rfl, ha0, _⟩ := dcv_ok hr1 rx e0
  refine ⟨a, rfl, Or.inl ⟨kvs0, ha0⟩, I1, δ, h1, _, sr.step s1, hr1, q1, fun dy h2 I2 H2 y ⟨qs, k, e1, e2, hR⟩ s2 hr2 ry => ?_⟩
  obtain ⟨p, kvs, e3, hp, kq⟩ := dcv_ok hr2 (rx.step s2) e1
  cases e3
  obtain rfl := keyD_ok ry e2
  refine ⟨valV kvs k, Or.inl ⟨kvs, k, hp, rfl, rfl⟩, ?_⟩
  cases ev : valD qs k with
  | none =>
    rw [ev] at hR
    rw [(kq.val k).2 ev]
    exact g _ _ _ _ _ hR (s1.trans s2) hr2 .non
  | some d =>
    rw [ev] at hR
    obtain ⟨v, e4, rv⟩ := (kq.val k).1 d ev
    rw [e4]
    exact g _ _ _ _ _ hR (s1.trans s2) hr2 rv
end
end FL
end
section
/-! dict(pairs), to be one of ours. -/
namespace FL
open PySem PySem.Spec PyProof.Rows L2
def fDictN : FA := fun ds h R => ∃ x qs, ds = [x] ∧ sqv h x = some (true, qs.map pairD) ∧ R (.ref h.length) (h ++ [.dct (mergeQ [] qs)])
theorem o_dictN {X : Cx} (hc : X.calm = true) : DC X (.type "dict") fDictN := by
  intro pins s σ H xs us Q J r ⟨I, ds, h, R, hr, rd, ⟨x, qs, e, e1, hR⟩, go⟩
  subst e
  obtain ⟨v, rfl, rx⟩ := rd.one
  obtain ⟨p, ws, rfl, hs, rs⟩ := sqv_ok hr rx e1
  obtain ⟨ps, kvs, rfl, pr, kq⟩ := pairs_rd rs
  rcases hs with ⟨_, hs⟩ | ⟨hk, _⟩
  · refine call_dictP hc pins s σ H _ us Q J r ⟨p, ps, kvs, rfl, hs, pr, fun a ha => ?_⟩
    have st : Stp I H (I ++ [a]) (upd H a (.dK (mergeK [] kvs))) := Stp.push ha
    have kq2 := (KQ.merge kq (⟨rfl, .nil⟩ : KQ X.K H I [] [])).step st
    exact go _ _ _ _ _ hR st (hr.push ha ⟨_, upd_same, kq2.ks, kq2.vs⟩) (.ref (by rw [← hr.len, List.getElem?_append_right (Nat.le_refl _), Nat.sub_self]; rfl))
  · cases hk
end FL
end
section
/-! xs[::-1] of tuples and lists. -/
namespace FL
open PySem PySem.Spec PyProof.Rows L2 HT PySem.W
section
variable {prog : Program} {w : World} {A : Around} {E : Value → Shared → Prop} {s : Shared}
theorem places_rev (n : Nat) : Builtin.Slice.slicePlaces ((n : Int) - 1) (-1) (-1) = n := by
  unfold Builtin.Slice.slicePlaces
  rw [if_neg (by decide)]
  by_cases h : (n : Int) - 1 > -1
  · rw [if_pos h, show (- -1 : Int) = 1 by decide, Int.ediv_one]
    omega
  · rw [if_neg h]
    omega
theorem sliceApplied_rev {sl : Addr} {vk : Value} {n : Nat} {Q : Int × Int × Nat → Shared → Prop} (hs : s.heap.IsSliceOf sl .none .none vk) (pk : IsPart vk (some (-1)))
    (h : Q ((n : Int) - 1, -1, n) s) : wpAny (model prog w) A (Builtin.Slice.sliceApplied (.ref sl) (pure (n : Int))) Q E s := by
  obtain ⟨os, hos, hcs, hds⟩ := id hs
  unfold Builtin.Slice.sliceApplied Builtin.Slice.sliceFields
  refine wpAny_bind (wpAny_bind (wpAny_field hos hds (x := .none) rfl (wpAny_bind (wpAny_field hos hds (x := .none) rfl (wpAny_bind (wpAny_field hos hds (x := vk) rfl (wpAny_pure ?_)))))))
  refine wpAny_bind (HT.slicePart_ pk ?_)
  show wpAny _ _ (if ((-1 : Int) == 0) = true then _ else _) _ _ s
  rw [if_neg (by decide)]
  refine wpAny_bind (slicePart_none (wpAny_bind (slicePart_none (wpAny_bind (wpAny_pure ?_)))))
  show wpAny _ _ (pure ((n : Int) - 1, (-1 : Int), Builtin.Slice.slicePlaces ((n : Int) - 1) (-1) (-1))) _ _ s
  rw [places_rev]
  exact wpAny_pure h
theorem filterMap_same {α β : Type} {f g : α → Option β} : ∀ {l : List α}, (∀ x ∈ l, f x = g x) → l.filterMap f = l.filterMap g
  | [], _ => rfl
  | a :: l, h => by
    rw [List.filterMap_cons, List.filterMap_cons, h a (List.mem_cons_self ..), filterMap_same fun x hx => h x (List.mem_cons_of_mem _ hx)]
theorem pick_rev (xs : Array Value) : ((List.range xs.size).filterMap fun (m : Nat) => xs[((xs.size : Int) - 1 + (m : Int) * (-1)).toNat]?).toArray = xs.toList.reverse.toArray := by
  have e : (List.range xs.size).filterMap (fun (m : Nat) => xs[((xs.size : Int) - 1 + (m : Int) * (-1)).toNat]?) = ((List.range xs.size).map fun k => xs.size - 1 - k).filterMap (xs[·]?) := by
    rw [List.filterMap_map]
    refine filterMap_same fun m hm => ?_
    have := List.mem_range.mp hm
    have e2 : ((xs.size : Int) - 1 + (m : Int) * (-1)).toNat = xs.size - 1 - m := by omega
    show _ = xs[xs.size - 1 - m]?
    rw [e2]
  rw [e, krv_range, List.filterMap_reverse, krv_all]
theorem getItem_tuple_rev {t sl : Addr} {items : Array Value} {vk : Value} {Q : Value → Shared → Prop} (ht : IsTup s.heap t items) (hs : s.heap.IsSliceOf sl .none .none vk) (pk : IsPart vk (some (-1)))
    (h : Q (.ref s.heap.objs.size) { s with heap := s.heap.push { cls := .type "tuple", data := .seq items.toList.reverse.toArray } })
    (hsz : items.size ≤ sizeLine) : wpAny (model prog w) A (getItem (.ref t) (.ref sl)) Q E s := by
  have htake : sizeOk (.seq items.toList.reverse.toArray) := by
    show items.toList.reverse.toArray.size ≤ sizeLine
    rw [List.size_toArray, List.length_reverse, Array.length_toList]
    exact hsz
  obtain ⟨os, hos, hcs, hds⟩ := id hs
  have hTs : s.TypeIs (.ref sl) "slice" := ⟨os, hos, hcs⟩
  unfold getItem
  try with_reducible refine wpAny_holding ?_
  first | refine wpAny_bind (wpAny_pure ?_) | skip
  refine wpAny_bind (wpAny_sequenceKey ht.typeIs (by decide) ?_)
  refine wpAny_bind (wpAny_callSpecial?_slot (name := Str.ofString "__getitem__") ht.typeIs PyProof.Rows.slot_tuple_getitem
    (wpAny_call_entry PyProof.Rows.slot_tuple_getitem ht.typeIs entry_tuple_getitem ?_ (args_tuple_getitem _ _)))
  show wpAny _ _ (Builtin.Tuple.tupleItemsOf (.ref t) >>= _) _ _ s
  refine wpAny_bind (tupleItemsOf_ ht ?_)
  refine wpAny_bind (wpAny_typeOf hTs ?_)
  rw [if_pos (by decide)]
  refine wpAny_bind (sliceApplied_rev hs pk ?_)
  have hno : ¬ ((((items.size : Int) - 1) == 0 && (-1 : Int) == 1 && items.size == items.size) = true) := by
    intro q
    rw [Bool.and_eq_true, Bool.and_eq_true] at q
    exact absurd q.1.2 (by decide)
  show wpAny _ _ (if (((items.size : Int) - 1) == 0 && (-1 : Int) == 1 && items.size == items.size) = true then _ else _) _ _ s
  rw [if_neg hno, pick_rev]
  first
    | exact wpAny_bind (m := Builtin.Tuple.tupleExact _) (wpAny_newObj_type (wpAny_pure ⟨_, rfl, wpAny_pure h⟩) htake)
    | exact wpAny_bind (m := Builtin.Tuple.tupleExact _) (wpAny_newObj_type (wpAny_bind (wpAny_pure (wpAny_pure ⟨_, rfl, wpAny_pure h⟩))) htake)
    | exact wpAny_bind (wpAny_bind (m := Builtin.Tuple.tupleExact _) (wpAny_newObj_type (wpAny_pure (wpAny_pure ⟨_, rfl, wpAny_pure h⟩)) htake))
    | exact wpAny_bind (wpAny_bind (m := Builtin.Tuple.tupleExact _) (wpAny_newObj_type (wpAny_pure ⟨_, rfl, wpAny_pure h⟩) htake))
end
section
variable {X : Cx} {e c : Expr} {te tc : TE} {pos p2 : Pos}
def RvR (X : Cx) (r : R2) : Prop :=
  ∀ (pins : List (Addr × Obj)) (s : Shared) (σ : L2.St) (H : Hp) (x y : V) (v u : Value) (sl : Addr) (Q : VK), L2.Inv X pins σ H s → L2.RelV x v → L2.RelV y u → s.heap.IsSliceOf sl .none .none u → r x y H Q →
    ∃ T id, typeLookup (.type T) "__getitem__" = pure (some (.builtin id)) ∧ s.TypeIs v T ∧ wpAny (model X.prog X.w) X.A (getItem v (.ref sl)) (EP X pins σ Q) X.xe s
theorem pe_rev {r : R2} (hr : RvR X r) (he : PE X e te) (hc : PE X c tc) : PE X (.Subscript e (.Slice none none (some c) p2) pos) (tOp r te tc) := by
  refine ⟨fun pins s σ H Q I h => ?_⟩
  refine Subscript_ (thn (he.run pins s σ H _ I h) fun v s1 ⟨x, H1, I1, r1, q1⟩ => ?_)
  refine wpAny_Slice ?_
  rw [evalPart_none]
  refine wpAny_pure (wpAny_pure ?_)
  rw [evalPart_some]
  refine thn (hc.run pins s1 σ H1 _ I1 q1) fun u s2 ⟨y, H2, I2, r2, q2⟩ => ?_
  have I4 : L2.Inv X pins σ H2 { s2 with heap := s2.heap.push { cls := .type "slice", data := .fields #[.none, .none, u] } } := I2.kept (t' := s2.toks) fun b ob q => Heap.get?_push_of_some _ q
  obtain ⟨T, id, hT, ht, hg⟩ := hr pins { s2 with heap := s2.heap.push { cls := .type "slice", data := .fields #[.none, .none, u] } } σ H2 x y v u s2.heap.objs.size Q I4 r1 r2 (Heap.IsSliceOf.new ..) q2
  show wpAny (model X.prog X.w) X.A (subscriptTail e (.Slice none none (some c) p2) v (.ref s2.heap.objs.size)) (EP X pins σ Q) X.xe { s2 with heap := s2.heap.push { cls := .type "slice", data := .fields #[.none, .none, u] } }
  exact tail_any (ops := [v, .ref s2.heap.objs.size]) ht hT hg (by with_unfolding_all rfl)
theorem vals_rev : ∀ {xs : List V} {us : List Value}, Vals xs us → Vals xs.reverse us.reverse := by
  intro xs us r
  have app : ∀ {as : List V} {bs : List Value} {cs : List V} {ds : List Value}, Vals as bs → Vals cs ds → Vals (as ++ cs) (bs ++ ds) := by
    intro as bs cs ds r q
    induction r with
    | nil => exact q
    | cons a r ih => exact .cons a ih
  induction r with
  | nil => exact .nil
  | cons a r ih =>
    rw [List.reverse_cons, List.reverse_cons]
    exact app ih (.cons a .nil)
def rRvT (K : PySem.W.Frag) : R2 := fun x y H Q => ∃ a xs, x = .ref a ∧ y = .int (-1) ∧ SqT K H a xs ∧ ∀ p, H p = none → Q (.ref p) (upd H p (.tup xs.reverse))
theorem rv_tup : RvR X (rRvT X.K) := by
  intro pins s σ H x y v u sl Q I rx ry hs h
  obtain ⟨a, xs, rfl, rfl, hx, q⟩ := h
  cases rx
  obtain ⟨t, rfl⟩ := ry
  obtain ⟨its, r, ht, hz⟩ := I.tuple hx
  have hlen := r.length
  refine ⟨"tuple", _, PyProof.Rows.slot_tuple_getitem.lookup, ht.typeIs, ?_⟩
  refine getItem_tuple_rev ht hs (IsPart.int (-1) t) ?_ (by rw [List.size_toArray] <;> omega)
  refine ⟨.ref s.heap.objs.size, _, I.laid (t' := s.toks) (o := .tup xs.reverse) (fun b ob q => Heap.get?_push_of_some _ q) (Nat.le_refl _) ?_, rfl, q _ (I.hok.fresh (Nat.le_refl _))⟩
  exact ⟨by rw [List.length_reverse]; omega, _, vals_rev r, IsTup.new _ _⟩
def rRvL (K : PySem.W.Frag) : R2 := fun x y H Q => ∃ a xs, x = .ref a ∧ y = .int (-1) ∧ SqL K H a xs ∧ ∀ p, H p = none → Q (.ref p) (upd H p (.lst xs.reverse))
theorem rv_list : RvR X (rRvL X.K) := by
  intro pins s σ H x y v u sl Q I rx ry hs h
  obtain ⟨a, xs, rfl, rfl, hx, q⟩ := h
  cases rx
  obtain ⟨t, rfl⟩ := ry
  obtain ⟨its, r, ht, hz⟩ := I.list hx
  have hlen := r.length
  refine ⟨"list", _, slot_list_getitem.lookup, ht.isList.typeIs, ?_⟩
  refine wpAny_getItem_list_slice ht.isList hs .none .none (IsPart.int (-1) t) (by simp) ?_ (by rw [List.size_toArray] <;> omega)
  rw [krv_pick]
  refine ⟨.ref s.heap.objs.size, _, I.laid (t' := s.toks) (o := .lst xs.reverse) (fun b ob q => Heap.get?_push_of_some _ q) (Nat.le_refl _) ?_, rfl, q _ (I.hok.fresh (Nat.le_refl _))⟩
  exact ⟨by rw [List.length_reverse]; omega, _, 0, vals_rev r, Heap.get?_push_size _ rfl⟩
end
theorem RDs.rev {K : Fg} {H : Hp} {I : List Addr} {ds : List D} {vs : List V} (r : RDs K H I ds vs) : RDs K H I ds.reverse vs.reverse := by
  induction ds generalizing vs with
  | nil =>
    cases r
    exact .nil
  | cons d ds ih =>
    cases r with
    | cons a r =>
      rw [List.reverse_cons, List.reverse_cons]
      exact (ih r).append (.cons a .nil)
def fRev : F2 := fun x y h R => y = .int (-1) ∧ ∃ k ds, sqv h x = some (k, ds) ∧ R (if k = true then .lst ds.reverse else .tup ds.reverse) h
section
variable {X : Cx} {a b : Expr} {ta tb : TDE} {pos p2 : Pos}
theorem o_rev : RvR X (up2 X.K fRev) := by
  intro pins s σ H x y v u sl Q J rx ry hs ⟨I, dx, dy, h, R, hr, rdx, rdy, ⟨e1, k, ds, e2, hR⟩, go⟩
  subst e1
  cases rdy
  obtain ⟨p, xs, rfl, hq, rs⟩ := sqv_ok hr rdx e2
  rcases hq with ⟨hk, hq⟩ | ⟨hk, hq⟩
  · subst hk
    exact rv_list pins s σ H _ _ v u sl Q J rx ry hs ⟨p, xs, rfl, rfl, hq, go.lst hR hr rs.rev⟩
  · subst hk
    exact rv_tup pins s σ H _ _ v u sl Q J rx ry hs ⟨p, xs, rfl, rfl, hq, go.tup hR hr rs.rev⟩
theorem d_rev (ha : DE X a ta) (hb : DE X b tb) : DE X (.Subscript a (.Slice none none (some b) p2) pos) (dOp fRev ta tb) := PE.imp (pe_rev o_rev ha hb) fun _ _ _ => up_op
end
end FL
end
section
/-! x is True, x is not False, of truths. -/
namespace FL
open PySem PySem.Spec PyProof.Rows L2
theorem isSame_bool (b c : Bool) : isSame (.bool b) (.bool c) = pure (decide (b = c)) := by
  cases b <;> cases c <;> rfl
section
variable {X : Cx}
theorem op_isB : OpR X (compareOp .Is) (fun x y H Q => ∃ b c, x = .bl b ∧ y = .bl c ∧ Q (.bl (decide (b = c))) H) := by
  intro pins s σ H x y v u Q I rx ry h
  obtain ⟨b, c, rfl, rfl, q⟩ := h
  cases rx
  cases ry
  show wpAny _ _ ((isSame (.bool b) (.bool c)) >>= fun z => pure (Value.bool z)) _ _ s
  rw [isSame_bool]
  exact wpAny_bind (wpAny_pure (wpAny_pure (fin_bl I q rfl)))
theorem op_notB : OpR X (compareOp .IsNot) (fun x y H Q => ∃ b c, x = .bl b ∧ y = .bl c ∧ Q (.bl (!decide (b = c))) H) := by
  intro pins s σ H x y v u Q I rx ry h
  obtain ⟨b, c, rfl, rfl, q⟩ := h
  cases rx
  cases ry
  show wpAny _ _ ((isSame (.bool b) (.bool c)) >>= fun z => pure (Value.bool (!z))) _ _ s
  rw [isSame_bool]
  exact wpAny_bind (wpAny_pure (wpAny_pure (fin_bl I q rfl)))
def fIsB : F2 := fun x y h R => ∃ b c, x = .bl b ∧ y = .bl c ∧ R (.bl (decide (b = c))) h
def fNotB : F2 := fun x y h R => ∃ b c, x = .bl b ∧ y = .bl c ∧ R (.bl (!decide (b = c))) h
theorem o_isB : DOp X (compareOp .Is) fIsB := by
  intro pins s σ H x y v u Q J rx ry ⟨I, dx, dy, h, R, hr, rdx, rdy, ⟨b, c, e1, e2, hf⟩, go⟩
  subst e1
  subst e2
  cases rdx
  cases rdy
  exact op_isB pins s σ H _ _ v u Q J rx ry ⟨b, c, rfl, rfl, go.now hf hr (.bl _)⟩
theorem o_notB : DOp X (compareOp .IsNot) fNotB := by
  intro pins s σ H x y v u Q J rx ry ⟨I, dx, dy, h, R, hr, rdx, rdy, ⟨b, c, e1, e2, hf⟩, go⟩
  subst e1
  subst e2
  cases rdx
  cases rdy
  exact op_notB pins s σ H _ _ v u Q J rx ry ⟨b, c, rfl, rfl, go.now hf hr (.bl _)⟩
end
end FL
end
section
/-! repr of values in which dicts stand too. -/
namespace FL
open PySem PySem.Spec PyProof.Rows L2
def keyP : Key → PyData
  | .inl i => .int i
  | .inr x => .str x
mutual
def toPX : D → Option PyData
  | .non => some .none
  | .bl b => some (.bool b)
  | .int i => some (.int i)
  | .str x => some (.str x)
  | .tup ds => (toPXs ds).map .tuple
  | .lst ds => (toPXs ds).map .list
  | .dct ks ds => (toPXs ds).map fun ps => .dict ((ks.map keyP).zip ps)
  | .scr _ => none
  | .ins _ _ _ => none
  | .ref _ => none
  | .obj _ => none
  | .ty _ => none
def toPXs : List D → Option (List PyData)
  | [] => some []
  | d :: ds => match toPX d, toPXs ds with
    | some p, some ps => some (p :: ps)
    | _, _ => none
end
theorem toPXs_cons {d : D} {ds : List D} {ps : List PyData} (e : toPXs (d :: ds) = some ps) : ∃ p qs, toPX d = some p ∧ toPXs ds = some qs ∧ ps = p :: qs := by
  unfold toPXs at e
  split at e
  · rename_i p qs e1 e2
    cases e
    exact ⟨p, qs, e1, e2, rfl⟩
  · cases e
theorem toPXs_len : ∀ {ds : List D} {ps : List PyData}, toPXs ds = some ps → ps.length = ds.length
  | [], ps, e => by
    cases e
    rfl
  | d :: ds, ps, e => by
    obtain ⟨p, qs, _, e2, rfl⟩ := toPXs_cons e
    rw [List.length_cons, List.length_cons, toPXs_len e2]
structure ShowX (p : PyData) : Prop where
  sh : p.showable = true
  dp : p.depth ≤ 60
  sz : p.shown.length ≤ sizeLine
section
variable {X : Cx} {pins : List (Addr × Obj)} {σ : L2.St} {H : Hp} {s : Shared} {J : List Addr}
theorem zip_fst {α β : Type} : ∀ {l : List α} {m : List β}, l.length = m.length → (l.zip m).map (·.1) = l
  | [], [], _ => rfl
  | a :: l, b :: m, h => by
    rw [List.zip_cons_cons, List.map_cons, zip_fst (by simpa using h)]
theorem zip_snd {α β : Type} : ∀ {l : List α} {m : List β}, l.length = m.length → (l.zip m).map (·.2) = m
  | [], [], _ => rfl
  | a :: l, b :: m, h => by
    rw [List.zip_cons_cons, List.map_cons, zip_snd (by simpa using h)]
theorem keys_read {P : Program} {w : World} {h : Heap} {es : List DictEntry} : ∀ {vs : List (Key × Value)}, Pairs (mixKind P w) es vs → ReadsAll h (es.map (·.key)) (vs.map fun p => keyP p.1) [] := by
  intro vs r
  induction r with
  | nil => exact .nil
  | cons a b r ih =>
    rename_i e kv es kvs
    have hr : Reads h e.key (keyP kv.1) [] := by
      rcases keyIs_shape a with ⟨i, t, e1, e2⟩ | ⟨x, t, e1, e2⟩
      · rw [e1, e2]
        exact .int i t
      · rw [e1, e2]
        exact .str x t
    exact .cons hr ih
theorem vals_of_pairs {P : Program} {w : World} {es : List DictEntry} : ∀ {vs : List (Key × Value)}, Pairs (mixKind P w) es vs → es.map (·.val) = vs.map (·.2) := by
  intro vs r
  induction r with
  | nil => rfl
  | cons a b r ih => rw [List.map_cons, List.map_cons, b, ih]
theorem kv_split : ∀ {kvs : List (Key × V)} {vs : List (Key × Value)}, KV kvs vs → kvs.map (·.1) = vs.map (·.1) ∧ Vals (kvs.map (·.2)) (vs.map (·.2)) := by
  intro kvs vs r
  induction r with
  | nil => exact ⟨rfl, .nil⟩
  | cons a r ih =>
    obtain ⟨e1, r1⟩ := ih
    refine ⟨by rw [List.map_cons, List.map_cons, e1, a.1], .cons a.2 r1⟩
mutual
theorem rdX (I : Inv X pins σ H s) (sm : H sysModules = none) : ∀ {d : D} {v : V} {u : Value} {p : PyData}, RD X.K H J d v → toPX d = some p → RelV v u → ∃ as, Reads s.heap u p as ∧ sysModules ∉ as
  | _, _, u, _, .non, e, ru => by
    cases e
    cases ru
    exact ⟨_, Reads.none, by simp⟩
  | _, _, u, _, .bl b, e, ru => by
    cases e
    cases ru
    exact ⟨_, Reads.bool b, by simp⟩
  | _, _, u, _, .int i, e, ru => by
    cases e
    obtain ⟨t, rfl⟩ := ru
    exact ⟨_, Reads.int i t, by simp⟩
  | _, _, u, _, .str x, e, ru => by
    cases e
    obtain ⟨t, rfl⟩ := ru
    exact ⟨_, Reads.str x t, by simp⟩
  | _, _, u, _, .ty _, e, ru => by cases e
  | _, _, u, _, .obj _, e, ru => by cases e
  | _, _, u, _, .ref _, e, ru => by cases e
  | _, _, u, _, .ins _ _ _ _, e, ru => by cases e
  | _, _, u, _, .scr _ _, e, ru => by cases e
  | _, _, u, _, .tup (ds := ds) q r, e, ru => by
    unfold toPX at e
    obtain ⟨ps, e1, e2⟩ := Option.map_eq_some_iff.mp e
    subst e2
    cases ru
    obtain ⟨its, rv, ⟨o, ho, hc, n, hd⟩, _⟩ := I.tuple q.sq
    obtain ⟨as, hr, hn⟩ := rdsX I sm r e1 rv
    exact ⟨_, Reads.tuple ho hc hd hr, hn⟩
  | _, _, u, _, .lst (p := a) (ds := ds) q n r, e, ru => by
    unfold toPX at e
    obtain ⟨ps, e1, e2⟩ := Option.map_eq_some_iff.mp e
    subst e2
    cases ru
    obtain ⟨its, rv, ⟨o, n, ho, hc, _, hd⟩, _⟩ := I.list (SqL.of q)
    obtain ⟨as, hr, hn⟩ := rdsX I sm r e1 rv
    refine ⟨_, Reads.list ho hc hd hr, fun z => ?_⟩
    rcases List.mem_cons.mp z with y | y
    · rw [← y, sm] at q
      cases q
    · exact hn y
  | _, _, u, _, .dct (p := a) (kvs := kvs) (ks := ks) (ds := ds) q n hk r, e, ru => by
    unfold toPX at e
    obtain ⟨ps, e1, e2⟩ := Option.map_eq_some_iff.mp e
    subst e2
    cases ru
    obtain ⟨_, ha, vs, kv, ⟨o, es, ep, ho, hx, hd, _, pr, _⟩⟩ := dk_rd I.hok q
    obtain ⟨k1, k2⟩ := kv_split kv
    obtain ⟨as, hr, hn⟩ := rdsX I sm r e1 k2
    have lp : (ks.map keyP).length = ps.length := by
      rw [List.length_map, ← hk, List.length_map, toPXs_len e1, r.length, List.length_map]
    have ek : ((ks.map keyP).zip ps).map (·.1) = vs.map fun p => keyP p.1 := by
      rw [zip_fst lp, ← hk, k1, List.map_map]
      rfl
    refine ⟨_, Reads.dict ho hx.1 hd (as := []) (bs := as) ?_ ?_, fun z => ?_⟩
    · rw [ek]
      exact keys_read pr
    · rw [zip_snd lp, vals_of_pairs pr]
      exact hr
    · have z' : sysModules ∈ a :: as := by simpa using z
      rcases List.mem_cons.mp z' with y | y
      · rw [← y] at ha
        simp at ha
      · exact hn y
theorem rdsX (I : Inv X pins σ H s) (sm : H sysModules = none) : ∀ {ds : List D} {vs : List V} {us : List Value} {ps : List PyData}, RDs X.K H J ds vs → toPXs ds = some ps → Vals vs us → ∃ as, ReadsAll s.heap us ps as ∧ sysModules ∉ as
  | _, _, us, _, .nil, e, ru => by
    cases e
    cases ru
    exact ⟨_, ReadsAll.nil, by simp⟩
  | _, _, us, _, .cons a r, e, ru => by
    obtain ⟨p, qs, e1, e2, rfl⟩ := toPXs_cons e
    cases ru with
    | cons r1 r2 =>
      obtain ⟨as, q1, n1⟩ := rdX I sm a e1 r1
      obtain ⟨bs, q2, n2⟩ := rdsX I sm r e2 r2
      refine ⟨_, ReadsAll.cons q1 q2, fun z => ?_⟩
      rcases List.mem_append.mp z with y | y
      · exact n1 y
      · exact n2 y
end
def fReprX : FA := fun ds h R => ∃ x p, ds = [x] ∧ toPX x = some p ∧ ShowX p ∧ R (.str p.shown) h
theorem o_reprX {k : Nat} (hr : Room k X.A) (gd : X.A.guards = some []) (sm : ∃ o, X.base.get? sysModules = some o) : DC X (.builtin "repr") fReprX := by
  intro pins s σ H xs us Q J r ⟨I, ds, h, R, hr0, rd, ⟨x, p, e, e1, sp, hR⟩, go⟩
  subst e
  obtain ⟨v, rfl, rx⟩ := rd.one
  obtain ⟨u, rfl, ru⟩ := vals1 r
  obtain ⟨so, hso⟩ := sm
  obtain ⟨as, rr, hn⟩ := rdX J (J.bs _ _ hso).2 rx e1 ru
  have q : Q (.str p.shown) H := go.now hR hr0 (.str _)
  have hu := hr.units
  have hd := sp.dp
  cases rr with
  | none => exact PySem.P.repr_of_none ⟨V.str _, H, J.tok _, ⟨_, rfl⟩, q⟩
  | bool b => exact PySem.P.repr_of_bool ⟨V.str _, H, J.tok _, ⟨_, rfl⟩, q⟩
  | int i t =>
    have hi : i.natAbs.log2 < 1920 := by
      have := sp.sh
      simpa [PyData.showable] using this
    exact PySem.P.repr_of_int hi ⟨V.str _, H, J.tok _, ⟨_, rfl⟩, q⟩
  | str z t => exact PySem.P.repr_of_str ⟨V.str _, H, J.tok _, ⟨_, rfl⟩, q⟩ sp.sz
  | list a1 a2 a3 a4 =>
    exact repr_of_reads' (.list a1 a2 a3 a4) sp.sh (fun _ => hn) gd (by omega) (fun _ _ e => e) (fun h' u tk hk => ⟨V.str _, H, J.kept hk, ⟨_, rfl⟩, q⟩) sp.sz
  | tuple a1 a2 a3 a4 =>
    exact repr_of_reads' (.tuple a1 a2 a3 a4) sp.sh (fun _ => hn) gd (by omega) (fun _ _ e => e) (fun h' u tk hk => ⟨V.str _, H, J.kept hk, ⟨_, rfl⟩, q⟩) sp.sz
  | dict a1 a2 a3 a4 a5 =>
    exact repr_of_reads' (.dict a1 a2 a3 a4 a5) sp.sh (fun _ => hn) gd (by omega) (fun _ _ e => e) (fun h' u tk hk => ⟨V.str _, H, J.kept hk, ⟨_, rfl⟩, q⟩) sp.sz
end
end FL
end
section
/-! A def handed on as a value; upper; a dict display as a value; the law's run where repr of dicts is asked. -/
namespace FL
open PySem PySem.Spec PyProof.Rows L2
/-- the module's name x is the def at f -/
def GAt (P : Program) (w : World) (K : Fg) (mg : Str → Option Value) (base : Heap) (k : Nat) (x : Str) (f : Addr) (n : Nat) (sp : DSp) : Prop :=
  ∃ fd ps, FnD P w K mg base CX0 k f fd ps sp ∧ mg x = some (.ref f) ∧ PySem.W.keepIn K (.ref f) = true ∧ ps.length = n ∧ Binds K fd ps []
/-- a local name's def called -/
def dFnL (i : Nat) (f : Addr) (sp : DSp) (t : TDA) : TDE := fun δ h R => δ[i]? = some (some (.obj f)) ∧ t δ h fun ds h1 => sp ds h1 R NoX
section
variable {X : Cx} {k n i : Nat} {x x' : Str} {f : Addr} {sp : DSp} {p pos : Pos} {e : Expr} {es : List Expr} {t : TDA}
theorem d_fnv (G : GAt X.prog X.w X.K X.mg X.base k x f n sp) (hg : Gl X x) (hd : (x == ("__debug__" : Str)) = false := by decide) : DE X (.Name x pos) (dC (.obj f)) := by
  obtain ⟨fd, ps, F, hm, hk, hn, hb⟩ := G
  exact dc_of (pe_glob (v := .ref f) hg hm rfl hd) fun _ _ => .obj f
theorem d_fnL (i : Nat) (G : GAt X.prog X.w X.K X.mg X.base k x' f n sp) (hr : Room k X.A) (gd : X.A.guards = some []) (ha : DA X (e :: es) t) (hN : X.N[i]? = some x := by rfl)
    (hv : Vis X.env.scope x := by first | exact Or.inl rfl | exact Or.inr (Or.inl rfl) | exact Or.inr (Or.inr rfl)) (hdb : (x == ("__debug__" : Str)) = false := by decide) (hcd : (x == ("__classdict__" : Str)) = false := by decide)
    (he : starEach (e :: es) X.env = (false, eval e X.env) :: starEach es X.env := by rfl) (hpl : (backTo pos (starEach es X.env)).any (·.1) = false := by rfl) :
    DE X (.Call (.Name x p) (e :: es) [] pos) (dFnL i f sp t) := by
  obtain ⟨fd, ps, F, hm, hk, hn, hb⟩ := G
  refine ⟨fun pins s σ H Q J h => ?_⟩
  obtain ⟨I, δ, h0, R, sr, hr0, ⟨hs, ht⟩, go⟩ := h
  obtain ⟨v, ev, rv⟩ := sr.2 i _ hs
  cases rv
  have q : upA X.K t σ H fun vs H1 => upSp X.K sp vs H1 Q E0 :=
    ⟨I, δ, h0, _, sr, hr0, ht, fun ds h1 I1 H1 vs hR s1 hr1 rs => ⟨I1, ds, h1, R, NoX, hr1, rs, hR, go.after s1, GoX.no⟩⟩
  refine wpAny_Call_Name_kw (thn ((pe_var (pos := p) hN hv hdb hcd).run pins s σ H (fun v H1 => v = .ref f ∧ H1 = H) J ⟨.ref f, ev, rfl, rfl⟩) fun u s1 ⟨v, H1, J1, r1, q1⟩ => ?_)
  obtain ⟨rfl, rfl⟩ := q1
  cases r1
  refine PySem.W.callWith_K (h₀ := X.base) J1.ok.mod.kin hk (thn (ha.run pos pins s1 σ _ _ J1 q) ?_) he hpl
  rintro us s2 ⟨vs, H2, J2, r, q2⟩
  refine ⟨J2.kIn, ?_⟩
  have l1 := F.len _ _ _ _ q2
  exact run_g (ks := []) (ws := []) (zs := []) F hr gd (kbn_of (n := n) hb .nil (by rw [hn]; rfl)) pass0 J2 r .nil (l1.trans hn) rfl (by rw [List.append_nil]; exact q2)
theorem mt_upper : MtR X "str.upper" (fun y xs H Q => ∃ a, y = .str a ∧ xs = [] ∧ a.length ≤ 5592405 ∧ Q (.str (Txt.upper a)) H) :=
  mt0 (C := fun a => a.length ≤ 5592405) (g := fun a => .str (Txt.upper a)) fun a t s Q hc q => PySem.SC.upper (PyProof.Rows.short24 (by have := PyProof.Rows.len_upper a; omega)) (q _ _ ⟨_, rfl⟩)
def mUpper : FM := fun x ds h R => ∃ a, x = .str a ∧ ds = [] ∧ a.length ≤ 5592405 ∧ R (.str (Txt.upper a)) h
theorem o_upper : MtR X "str.upper" (upM X.K mUpper) := by
  intro pins s σ H x xs v us Q J rv r ⟨I, dx, ds, h, R, hr, rx, rd, ⟨a, e1, e2, hl, hR⟩, go⟩
  subst e1 e2
  cases rx
  cases rd
  exact mt_upper pins s σ H _ _ v us Q J rv r ⟨a, rfl, rfl, hl, go.now hR hr (.str _)⟩
end
/-- {k: v} as a value -/
def dDispV (tk tv : TDE) : TDE := fun δ h R => tk δ (h ++ [.dct []]) fun a h1 => tv δ h1 fun b h2 => ∃ k, keyD a = some k ∧ h2 = h ++ [.dct []] ∧ okR 0 b ∧ R (.dct [k] [b]) h
section
variable {X : Cx} {pos : Pos} {ek ev : Expr} {tk tv : TDE}
theorem d_dispV (hk : DE X ek tk) (hv : DE X ev tv) : DE X (.Dict [some ek] [ev] pos) (dDispV tk tv) := by
  refine PE.imp (pe_disp (pps_cons hk hv pps_nil) rfl rfl (by simp) (by rw [List.length_singleton]; decide)) fun σ H Q ⟨I, δ, h, R, sr, hr, q, g⟩ p hp => ?_
  have st : Stp I H (I ++ [p]) (upd H p (.dK [])) := Stp.push hp
  have hr0 : HR X.K (I ++ [p]) (h ++ [.dct []]) (upd H p (.dK [])) := hr.push hp ⟨_, upd_same, rfl, .nil⟩
  refine ⟨I ++ [p], δ, _, _, sr.step st, hr0, q, fun a h1 I1 H1 x q1 s1 hr1 ra => ?_⟩
  refine ⟨I1, δ, h1, _, (sr.step st).step s1, hr1, q1, fun b h2 I2 H2 y ⟨k, e1, e2, e3, hR⟩ s2 hr2 rb => ?_⟩
  subst e2
  have p0 : (I ++ [p])[h.length]? = some p := by
    rw [← hr.len, List.getElem?_append_right (Nat.le_refl _), Nat.sub_self]
    rfl
  have pi : I2[h.length]? = some p := s2.at (s1.at p0)
  have g2 : (h ++ [O.dct []])[h.length]? = some (.dct []) := by
    rw [List.getElem?_append_right (Nat.le_refl _), Nat.sub_self]
    rfl
  obtain ⟨kvs, e5, e6, e7⟩ := hr2.ob _ _ _ pi g2
  have e0 : kvs = [] := List.map_eq_nil_iff.mp e6
  subst e0
  obtain rfl := keyD_ok (ra.step s2) e1
  have m : p ∈ I2 := List.mem_of_getElem? pi
  have st3 : Stp I2 H2 I2 (upd H2 p (.dK (mergeK [] [(k, y)]))) := Stp.put m ⟨_, e5, trivial⟩
  refine ⟨e5, [(k, y)], rfl, by rw [List.length_singleton]; decide, ?_⟩
  have rb3 := rb.step st3
  have hr3 : HR X.K I2 (h ++ [.dct [(k, b)]]) (upd H2 p (.dK (mergeK [] [(k, y)]))) := by
    have := hr2.put (x := .dct [(k, b)]) pi ⟨[(k, y)], upd_same, rfl, .cons rb3 .nil⟩
    have es : (h ++ [O.dct []]).set h.length (.dct [(k, b)]) = h ++ [.dct [(k, b)]] := by
      rw [List.set_append_right _ _ (Nat.le_refl _), Nat.sub_self]
      rfl
    rw [es] at this
    exact this
  have hl : I2.length = h.length + 1 := by
    rw [hr3.len, List.length_append]
    rfl
  have okh : okOs h.length h := hr.ok
  have stA : Stp I H I2 (upd H2 p (.dK (mergeK [] [(k, y)]))) := st.trans (s1.trans (s2.trans st3))
  have np : p ∉ I2.take h.length := by
    intro z
    obtain ⟨j, hj, ej⟩ := List.getElem_of_mem z
    rw [List.length_take] at hj
    have hj1 : j < I2.length := by omega
    have e9 : I2[j]? = some p := by
      rw [List.getElem_take] at ej
      rw [List.getElem?_eq_getElem hj1, ej]
    have := (List.getElem?_inj hj1 hr3.nd).mp (e9.trans pi.symm)
    omega
  refine g _ _ _ _ _ hR (stA.drop (by rw [hr.len]; exact Nat.le_refl _)) (hr3.drop okh) (.dct (Or.inl upd_same) np rfl (.cons (rb3.take (okR.mono (Nat.zero_le _) e3)) .nil))
end
section
variable {P : Program} {w : World} {K : Fg} {mg mb : Str → Option Value} {CX : CXT} {k : Nat} {fa a : Addr} {fd : FuncData} {x : Str} {s1 : Shared} {vs : List Value} {ns : List Int}
theorem law_runS (H : Hp) (only : Only H) (hS : SqL K H a (ns.map V.int)) (hok : HOk P w H s1.heap) (hA : ∀ b, H b ≠ none → b = a) (hK : H a ≠ none → K.lookup a = none)
    (KX : K.In s1.heap) (hns : s1.heap.Ns mainGlobals mg) (hb : s1.heap.Ns builtinsNs mb) (hbb : ∀ x : Str, x ≠ "__name__" → mb x = bootBuiltins x) (lim : s1.heap.NoLimit) (sy : ∃ m, s1.heap.Ns sysModules m) (hg : s1.gens = #[])
    (ha : s1.heap.get? a = some { cls := .type "list", data := .seq vs.toArray }) (hr : Room k callerA) (hl : ns.length ≤ 63)
    (F : ∀ base : Heap, K.In base → base.Ns mainGlobals mg → (∃ o, base.get? sysModules = some o) → FnD P w K mg base CX k fa fd [x] spLaw) (bind : ∀ (s : Shared) (u : Value), BindsTo s fd ⟨[u], []⟩ [(x, u)])
    (hCX : ∀ H e s', CX [] H s1 (fun _ _ _ => False) e s' → False) :
    codeAny (model P w) callerA (.call (.ref fa) ⟨[.ref a], []⟩) (fun r s' => r = .ok (.ret (.bool true)) ∧ OldK s1.heap s'.heap ∧ s'.os = s1.os ∧ AllBare s'.gens) s1 := by
  -- nothing but the script is tracked, so dicts are not
  have noD : ∀ (b : Addr) (o : Obj) (es : Array DictEntry) (ep : Nat), s1.heap.get? b = some o → o.data = .dict es ep → H b = none := by
    intro b o es ep e d
    cases q : H b with
    | none => rfl
    | some u =>
      have z : b = a := hA b (by rw [q]; exact Option.some_ne_none u)
      subst z
      rw [ha] at e
      cases e
      cases d
  have ns' : ∀ (b : Addr) (m : Str → Option Value), s1.heap.Ns b m → (hidT s1.heap H).Ns b m := by
    rintro b m ⟨o, es, ep, e, d, r⟩
    exact ⟨o, es, ep, hidT_get e (noD b o es ep e d), d, r⟩
  have inK : K.In (hidT s1.heap H) := by
    intro b o e
    refine hidT_get (KX b o e) ?_
    cases q : H b with
    | none => rfl
    | some u =>
      have nn : H b ≠ none := by rw [q]; exact Option.some_ne_none u
      have z : b = a := hA b nn
      subst z
      rw [hK nn] at e
      cases e
  have md : Mod K mg (hidT s1.heap H) := by
    refine ⟨inK, ns' _ _ hns, ⟨mb, ns' _ _ hb, hbb⟩, ?_⟩
    obtain ⟨mc, h1, h2⟩ := lim
    exact ⟨mc, ns' _ _ h1, h2⟩
  have e0 : Env0 P w K mg (hidT s1.heap H) callerA [] s1 H := by
    refine ⟨rfl, md, fun b o e => of_hidT e, Nat.le_of_eq (hidT_size _ _), trivial, fun b hb => ?_, hok, .of_eq hg⟩
    cases (show b ∈ ([] : List Addr) from hb)
  have st : upSp K spLaw [.ref a] H (fun v _ => v = .bl true) (fun _ _ _ => False) := by
    refine ⟨[], [.scr (ns.map D.int)], [], fun d h => d = .bl true, NoX, ⟨rfl, List.nodup_nil, fun i a o e => by cases e⟩, ?_, ⟨ns, rfl, rfl, hl, rfl⟩, ?_, GoX.no⟩
    · refine .cons (.scr ?_ (rds_ints ns)) .nil
      rcases hS with (hS | ⟨o, hS⟩) | hS
      · rcases only a with z | ⟨o, xs, z⟩
        · rw [z] at hS
          cases hS
        · rw [z] at hS
          cases hS
      · exact Or.inl ⟨o, hS, List.not_mem_nil⟩
      · exact Or.inr (Or.inr hS)
    · intro d h' I' H' v hd s2 hr2 rd
      subst hd
      cases rd
      rfl
  have run := (F _ inK (ns' _ _ hns) (by obtain ⟨m, hm⟩ := sy; obtain ⟨o, es, ep, e, _⟩ := ns' _ _ hm; exact ⟨o, e⟩)).run callerA [] s1 H ⟨[.ref a], []⟩ [.ref a] [.ref a] _ _ hr rfl e0 (bind s1 (.ref a)) (.cons rfl .nil) st
  refine codeAny_mono run ?_
  intro r s' h
  cases r with
  | error e => exact (hCX H e s' h).elim
  | ok fl =>
    cases fl with
    | next => exact h.elim
    | brk => exact h.elim
    | cont => exact h.elim
    | ret u =>
      obtain ⟨v, H', os, bare, un, hok', r', q⟩ := h
      have q' : v = .bl true := q
      subst q'
      obtain rfl : u = Value.bool true := r'
      refine ⟨rfl, OldK.of_keep ?_, os, bare⟩
      intro b o e
      cases q : H b with
      | none => exact un.keep b o e q (by intro z; cases (show b ∈ ([] : List Addr) from z)) (by intro z; cases z)
      | some u =>
        rcases only b with z | ⟨ob, xs, z⟩
        · rw [q] at z
          cases z
        · have e1 := (hok b _ z).1
          have e2 := (hok' b _ (un.frzs b ob _ z)).1
          rw [e] at e1
          cases e1
          exact e2
/-- from a def that keeps the law's promise to what k_head leaves -/
theorem walk_dS {l : PySem.W.OpenLaw} {q : Program} {loose : List Str} {XP : (Str → Option Value) → Heap → Prop} {YP : World → Heap → Prop} {d : DefRec} {K : Params → Fg}
    (hsee : importsNone q = true) (hn : l.most = some 63) (hdf : d.params.defaults = []) (hr : Room k callerA) (hY : ∀ (w : World) (h : Heap), YP w h → (K w.params).In h)
    (F : ∀ (w : World) (mg : Str → Option Value) (fa : Addr) (h : Heap), (K w.params).In h → h.Ns mainGlobals mg → mg d.name = some (.ref fa) →
      ∃ fd : FuncData, (∀ (s : Shared) (u : Value), BindsTo s fd ⟨[u], []⟩ [(x, u)]) ∧ ∀ base : Heap, (K w.params).In base → base.Ns mainGlobals mg → (∃ o, base.get? sysModules = some o) → FnD l.prog w (K w.params) mg base CX0 k fa fd [x] spLaw) :
    PySem.W.WalkO q loose XP YP l.row.toRowW d [] (fun f vs => PySem.call f vs) := by
  refine Att.attach_call hn hdf ?_
  intro w s₀ s₁ mg mb fa o pm cd doc a vs ns G Y ho hd hcd hmg hobj hints hlen hg
  have KX := hY w _ Y
  obtain ⟨fd, hb, hF⟩ := F w mg fa _ KX G.T.g hmg
  have rv := vals_ints hints
  have len := hints.length
  have big : ns.length ≤ sizeLine := Nat.le_trans hlen (by decide)
  cases hk : (K w.params).lookup a with
  | some ob =>
    have e := KX a ob hk
    rw [hobj] at e
    cases e
    refine law_runS (fun _ => none) (fun _ => Or.inl rfl) (Or.inr ⟨_, vs.toArray, _, hk, rfl, rfl, rfl, ?_, ?_⟩) ?_ (fun b z => absurd rfl z) (fun z => absurd rfl z) KX G.T.g G.T.b G.T.builtins G.T.nolimit (by obtain ⟨mm, h1, _⟩ := (G.T.seer hsee).mods; exact ⟨mm, h1⟩) hg hobj hr hlen hF hb (fun _ _ _ z => z)
    · rw [List.size_toArray, len]
      exact big
    · simpa using rv
    · intro b u z
      cases (show (none : Option HO) = some u from z)
  | none =>
    refine law_runS (fun b => if b = a then some (.frz { cls := .type "list", data := .seq vs.toArray } (.lst (ns.map V.int))) else none) ?_ (Or.inl (Or.inr ⟨_, if_pos rfl⟩)) ?_ ?_ (fun _ => hk) KX G.T.g G.T.b G.T.builtins G.T.nolimit (by obtain ⟨mm, h1, _⟩ := (G.T.seer hsee).mods; exact ⟨mm, h1⟩) hg hobj hr hlen hF hb (fun _ _ _ z => z)
    · intro b
      by_cases z : b = a
      · exact Or.inr ⟨_, _, if_pos z⟩
      · exact Or.inl (if_neg z)
    · intro b u z
      by_cases e : b = a
      · have z' := (if_pos e).symm.trans z
        cases z'
        subst e
        exact ⟨hobj, by rw [List.length_map]; exact big, vs, _, rv, hobj⟩
      · have z' := (if_neg e).symm.trans z
        cases z'
    · intro b z
      by_cases e : b = a
      · exact e
      · exact absurd (if_neg e) z
end
end FL
end
section
/-! xs + ys as one of ours; what things with dicts look like. -/
namespace FL
open PySem PySem.Spec PyProof.Rows L2
def fAddN : F2 := fun x y h R => ∃ xs ys, lsv h x = some xs ∧ lsv h y = some ys ∧ xs.length + ys.length ≤ 16777216 ∧ R (.ref h.length) (h ++ [.lst (xs ++ ys)])
section
variable {X : Cx}
theorem o_addN : DOp X (binaryOp .Add) fAddN := by
  intro pins s σ H x y v u Q J rx ry ⟨I, dx, dy, h, R, hr, rdx, rdy, ⟨xs, ys, e1, e2, hl, hR⟩, go⟩
  obtain ⟨p, vs, rfl, q1, r1⟩ := lsv_ok hr rdx e1
  obtain ⟨p2, ws, rfl, q2, r2⟩ := lsv_ok hr rdy e2
  exact op_cat pins s σ H _ _ v u Q J rx ry ⟨p, p2, vs, ws, rfl, rfl, q1, q2, by rw [← r1.length, ← r2.length]; exact hl, go.lstN hR hr (r1.append r2)⟩
end
/-! ### things with dicts -/
structure SX (p : PyData) (n d : Nat) : Prop where
  sh : p.showable = true
  dp : p.depth ≤ d
  sz : p.shown.length ≤ n
structure SXA (ps : List PyData) (n d : Nat) : Prop where
  sh : PyData.showableAll ps = true
  dp : PyData.depthAll ps ≤ d
  sz : piled (PyData.shownAll ps) ≤ n
theorem Sh.x {p : PyData} {n d : Nat} (h : Sh p n d) : SX p n d := ⟨h.sh, h.dp, h.sz⟩
theorem SX.wk {p : PyData} {n d n' d' : Nat} (h : SX p n d) (hn : n ≤ n') (hd : d ≤ d') : SX p n' d' := ⟨h.sh, Nat.le_trans h.dp hd, Nat.le_trans h.sz hn⟩
theorem SX.show {p : PyData} {n d : Nat} (h : SX p n d) (hn : n ≤ 16777216) (hd : d ≤ 60) : ShowX p := ⟨h.sh, Nat.le_trans h.dp hd, Nat.le_trans h.sz (show n ≤ sizeLine from hn)⟩
theorem sxa_nil : SXA [] 0 0 := ⟨rfl, Nat.le_refl 0, Nat.le_refl 0⟩
theorem sxa_cons {p : PyData} {ps : List PyData} {n d n' d' : Nat} (h : SX p n d) (hs : SXA ps n' d') : SXA (p :: ps) (n + 2 + n') (max d d') := by
  refine ⟨?_, ?_, ?_⟩
  · simp only [PyData.showableAll, h.sh, hs.sh, Bool.and_self]
  · simp only [PyData.depthAll]
    have := h.dp
    have := hs.dp
    omega
  · simp only [PyData.shownAll, piled_cons]
    have := h.sz
    have := hs.sz
    omega
theorem sx_list {ps : List PyData} {n d : Nat} (h : SXA ps n d) : SX (.list ps) (n + 2) (d + 1) := by
  refine ⟨h.sh, ?_, ?_⟩
  · simp only [PyData.depth]
    have := h.dp
    omega
  · simp only [PyData.shown]
    unfold listText
    rw [strLen_append]
    have := textFrom_le (PyData.shownAll ps) 0 "["
    have := h.sz
    have e1 : ((("[" : String) : Str)).length = 1 := rfl
    have e2 : ((("]" : String) : Str)).length = 1 := rfl
    omega
theorem sx_tup {ps : List PyData} {n d : Nat} (h : SXA ps n d) : SX (.tuple ps) (n + 3) (d + 1) := by
  refine ⟨h.sh, ?_, ?_⟩
  · simp only [PyData.depth]
    have := h.dp
    omega
  · simp only [PyData.shown]
    unfold tupleText
    rw [strLen_append, strLen_append]
    have := h.sz
    have e1 : ((("(" : String) : Str)).length = 1 := rfl
    have e2 : (((if (PyData.shownAll ps).length == 1 then ",)" else ")" : String) : Str)).length ≤ 2 := by
      split <;> decide
    by_cases z : PyData.shownAll ps = []
    · have e2' := e2
      rw [z] at e2' this ⊢
      have e3 : (Str.join ", " []).length = 0 := rfl
      omega
    · have := join_length_add _ z
      omega
theorem sx_dct0 : SX (.dict []) 2 1 := ⟨rfl, Nat.le_refl 1, Nat.le_refl 2⟩
theorem sx_dct1 {k p : PyData} {n d n' d' : Nat} (hk : SX k n d) (h : SX p n' d') : SX (.dict [(k, p)]) (n + n' + 4) (max d d' + 1) := by
  refine ⟨?_, ?_, ?_⟩
  · simp only [PyData.showable, PyData.showableKv, hk.sh, h.sh, Bool.and_self]
  · simp only [PyData.depth, PyData.depthKv]
    have := hk.dp
    have := h.dp
    omega
  · simp only [PyData.shown, PyData.shownKv]
    unfold dictText
    rw [strLen_append, strLen_append]
    have e0 : (Str.join ", " [k.shown ++ ": " ++ p.shown]).length = (k.shown ++ ": " ++ p.shown).length := by
      rfl
    rw [e0, strLen_append, strLen_append]
    have := hk.sz
    have := h.sz
    have e1 : ((("{" : String) : Str)).length = 1 := rfl
    have e2 : ((("}" : String) : Str)).length = 1 := rfl
    have e3 : (((": " : String) : Str)).length = 2 := rfl
    omega
/-- d is shown by at most n signs, m deep -/
def PX (d : D) (n m : Nat) : Prop := ∃ p, toPX d = some p ∧ SX p n m
def PXs (ds : List D) (n m : Nat) : Prop := ∃ ps, toPXs ds = some ps ∧ SXA ps n m
theorem PX.wk {d : D} {n m n' m' : Nat} (h : PX d n m) (hn : n ≤ n') (hm : m ≤ m') : PX d n' m' := by
  obtain ⟨p, e, h1⟩ := h
  exact ⟨p, e, h1.wk hn hm⟩
theorem px_int {i : Int} (h : i.natAbs < 2 ^ 200) : PX (.int i) 201 0 := ⟨_, rfl, (sh_int h).x⟩
theorem px_str {s : Str} {n : Nat} (hl : s.length ≤ n) (hx : ∀ c ∈ s.cps.toList, c < 16 ^ 8) : PX (.str s) (10 * n + 2) 0 := ⟨_, rfl, (sh_str hl hx).x⟩
theorem px_non : PX .non 4 0 := ⟨_, rfl, sh_none.x⟩
theorem px_bl {b : Bool} : PX (.bl b) 5 0 := ⟨_, rfl, sh_bool.x⟩
theorem pxs_nil : PXs [] 0 0 := ⟨[], rfl, sxa_nil⟩
theorem pxs_cons {d : D} {ds : List D} {n m n' m' : Nat} (h : PX d n m) (hs : PXs ds n' m') : PXs (d :: ds) (n + 2 + n') (max m m') := by
  obtain ⟨p, e, h1⟩ := h
  obtain ⟨ps, es, h2⟩ := hs
  refine ⟨p :: ps, ?_, sxa_cons h1 h2⟩
  show (match toPX d, toPXs ds with
    | some p, some ps => some (p :: ps)
    | _, _ => none) = _
  rw [e, es]
theorem px_tup {ds : List D} {n m : Nat} (h : PXs ds n m) : PX (.tup ds) (n + 3) (m + 1) := by
  obtain ⟨ps, e, h1⟩ := h
  refine ⟨.tuple ps, ?_, sx_tup h1⟩
  show (toPXs ds).map PyData.tuple = _
  rw [e]
  rfl
theorem px_lst {ds : List D} {n m : Nat} (h : PXs ds n m) : PX (.lst ds) (n + 2) (m + 1) := by
  obtain ⟨ps, e, h1⟩ := h
  refine ⟨.list ps, ?_, sx_list h1⟩
  show (toPXs ds).map PyData.list = _
  rw [e]
  rfl
theorem px_dct0 : PX (.dct [] []) 2 1 := ⟨_, rfl, sx_dct0⟩
theorem px_dct1 {k : Key} {d : D} {n m n' m' : Nat} (hk : SX (keyP k) n m) (h : PX d n' m') : PX (.dct [k] [d]) (n + n' + 4) (max m m' + 1) := by
  obtain ⟨p, e, h1⟩ := h
  refine ⟨.dict [(keyP k, p)], ?_, sx_dct1 hk h1⟩
  show (toPXs [d]).map _ = _
  have : toPXs [d] = some [p] := by
    show (match toPX d, toPXs [] with
      | some p, some ps => some (p :: ps)
      | _, _ => none) = _
    rw [e]
    rfl
  rw [this]
  rfl
end FL
end
section
/-! Things that hold things of their own: lists, dicts, objects, one within another, no place shared. -/
namespace FL
open PySem PySem.Spec PyProof.Rows L2
/-- what a thing is, its parts left out -/
inductive Kd where
  | lst : Kd
  | dct (ks : List Key) : Kd
  | ins (C : Addr) (fs : List Str) : Kd
inductive Tr where
  | v (d : D) : Tr
  | n (k : Kd) (ts : List Tr) : Tr
def Kd.ob : Kd → List D → O
  | .lst, ds => .lst ds
  | .dct ks, ds => .dct (ks.zip ds)
  | .ins C fs, ds => .ins C (fs.zip ds)
def Kd.ok : Kd → Nat → Prop
  | .lst, _ => True
  | .dct ks, m => ks.length = m
  | .ins _ fs, m => fs.length = m
mutual
/-- the datum d stands for t in h; as: the places of its things -/
def RpT (h : OS) : Tr → D → List Nat → Prop
  | .v x, d, as => d = x ∧ as = []
  | .n k ts, d, as => ∃ n as' ds, d = .ref n ∧ h[n]? = some (k.ob ds) ∧ k.ok ts.length ∧ as = n :: as' ∧ RpTs h ts ds as'
def RpTs (h : OS) : List Tr → List D → List Nat → Prop
  | [], ds, as => ds = [] ∧ as = []
  | t :: ts, ds, as => ∃ d ds' a1 a2, ds = d :: ds' ∧ as = a1 ++ a2 ∧ RpT h t d a1 ∧ RpTs h ts ds' a2
end
section
variable {h h' : OS}
mutual
theorem RpT.keep : ∀ {t : Tr} {d : D} {as : List Nat}, RpT h t d as → (∀ n ∈ as, ∀ o, h[n]? = some o → h'[n]? = some o) → RpT h' t d as
  | .v x, d, as, r, m => r
  | .n k ts, d, as, ⟨n, as', ds, e1, e2, e3, e4, r⟩, m => by
    subst e4
    exact ⟨n, as', ds, e1, m n (List.mem_cons_self ..) _ e2, e3, rfl, RpTs.keep r fun x hx => m x (List.mem_cons_of_mem _ hx)⟩
theorem RpTs.keep : ∀ {ts : List Tr} {ds : List D} {as : List Nat}, RpTs h ts ds as → (∀ n ∈ as, ∀ o, h[n]? = some o → h'[n]? = some o) → RpTs h' ts ds as
  | [], ds, as, r, m => r
  | t :: ts, ds, as, ⟨d, ds', a1, a2, e1, e2, r1, r2⟩, m => by
    subst e2
    exact ⟨d, ds', a1, a2, e1, rfl, RpT.keep r1 fun x hx => m x (List.mem_append_left _ hx), RpTs.keep r2 fun x hx => m x (List.mem_append_right _ hx)⟩
end
mutual
theorem RpT.lt : ∀ {t : Tr} {d : D} {as : List Nat}, RpT h t d as → ∀ n ∈ as, n < h.length
  | .v x, d, as, r, n, hn => by
    rw [r.2] at hn
    cases hn
  | .n k ts, d, as, ⟨m, as', ds, e1, e2, e3, e4, r⟩, n, hn => by
    subst e4
    rcases List.mem_cons.mp hn with z | z
    · rw [z]
      exact (List.getElem?_eq_some_iff.mp e2).1
    · exact RpTs.lt r n z
theorem RpTs.lt : ∀ {ts : List Tr} {ds : List D} {as : List Nat}, RpTs h ts ds as → ∀ n ∈ as, n < h.length
  | [], ds, as, r, n, hn => by
    rw [r.2] at hn
    cases hn
  | t :: ts, ds, as, ⟨d, ds', a1, a2, e1, e2, r1, r2⟩, n, hn => by
    subst e2
    rcases List.mem_append.mp hn with z | z
    · exact RpT.lt r1 n z
    · exact RpTs.lt r2 n z
end
theorem RpTs.len : ∀ {ts : List Tr} {ds : List D} {as : List Nat}, RpTs h ts ds as → ts.length = ds.length
  | [], ds, as, r => by
    rw [r.1]
    rfl
  | t :: ts, ds, as, ⟨d, ds', a1, a2, e1, e2, r1, r2⟩ => by rw [e1, List.length_cons, List.length_cons, RpTs.len r2]
/-- one part, and the rest around it -/
theorem RpTs.at : ∀ {ts : List Tr} {ds : List D} {as : List Nat} {i : Nat} {t : Tr}, RpTs h ts ds as → ts[i]? = some t →
    ∃ d a1 a2 a3, ds[i]? = some d ∧ as = a1 ++ a2 ++ a3 ∧ RpT h t d a2 ∧
      ∀ (h' : OS) (t' : Tr) (d' : D) (a2' : List Nat), RpT h' t' d' a2' → (∀ n ∈ a1 ++ a3, ∀ o, h[n]? = some o → h'[n]? = some o) → RpTs h' (ts.set i t') (ds.set i d') (a1 ++ a2' ++ a3)
  | [], ds, as, i, t, r, e => by cases e
  | u :: ts, ds, as, 0, t, ⟨d, ds', a1, a2, e1, e2, r1, r2⟩, e => by
    cases e
    subst e1
    subst e2
    refine ⟨d, [], a1, a2, rfl, rfl, r1, fun h' t' d' a2' r' m => ?_⟩
    exact ⟨d', ds', a2', a2, rfl, rfl, r', r2.keep fun n hn => m n hn⟩
  | u :: ts, ds, as, i + 1, t, ⟨d, ds', a1, a2, e1, e2, r1, r2⟩, e => by
    subst e1
    subst e2
    obtain ⟨d2, b1, b2, b3, e3, e4, r3, put⟩ := RpTs.at (i := i) r2 e
    subst e4
    refine ⟨d2, a1 ++ b1, b2, b3, e3, by simp, r3, fun h' t' d' a2' r' m => ?_⟩
    refine ⟨d, ds'.set i d', a1, b1 ++ a2' ++ b3, rfl, by simp, r1.keep fun n hn => m n ?_, put h' t' d' a2' r' fun n hn => m n ?_⟩
    · simp [hn]
    · rcases List.mem_append.mp hn with z | z
      · simp [z]
      · simp [z]
/-- the part at a path -/
def Tr.at : Tr → List Nat → Option Tr
  | t, [] => some t
  | .v _, _ :: _ => none
  | .n _ ts, i :: p => match ts[i]? with
    | some t => t.at p
    | none => none
/-- another part put there -/
def Tr.put : Tr → List Nat → Tr → Tr
  | _, [], u => u
  | .v d, _ :: _, _ => .v d
  | .n k ts, i :: p, u => match ts[i]? with
    | some t => .n k (ts.set i (t.put p u))
    | none => .n k ts
/-- from a thing down -/
def down (h : OS) : D → List Nat → Option D
  | d, [] => some d
  | .ref n, i :: p => match h[n]? with
    | some (.lst ds) => (ds[i]?).bind fun d => down h d p
    | some (.dct qs) => (qs[i]?).bind fun q => down h q.2 p
    | some (.ins _ fs) => (fs[i]?).bind fun q => down h q.2 p
    | _ => none
  | _, _ :: _ => none
theorem set_same {α : Type} {l : List α} {i : Nat} {a : α} (e : l[i]? = some a) : l.set i a = l := by
  refine List.ext_getElem? fun j => ?_
  by_cases z : i = j
  · subst z
    rw [List.getElem?_set_self (List.getElem?_eq_some_iff.mp e).1, e]
  · rw [List.getElem?_set_ne z]
theorem zip_get {α β : Type} : ∀ {l : List α} {m : List β} {i : Nat} {b : β}, l.length = m.length → m[i]? = some b → ∃ a, l[i]? = some a ∧ (l.zip m)[i]? = some (a, b)
  | [], [], _, _, _, e => by cases e
  | a :: l, b :: m, 0, _, _, e => by
    cases e
    exact ⟨a, rfl, rfl⟩
  | a :: l, b :: m, i + 1, c, hl, e => zip_get (l := l) (m := m) (i := i) (by simpa using hl) e
theorem down_ob {k : Kd} {ds : List D} {n i : Nat} {d : D} {p : List Nat} (e : h[n]? = some (k.ob ds)) (ok : k.ok ds.length) (ed : ds[i]? = some d) : down h (.ref n) (i :: p) = down h d p := by
  cases k with
  | lst =>
    rw [down, e]
    show (ds[i]?).bind _ = _
    rw [ed, Option.bind_some]
  | dct ks =>
    obtain ⟨a, _, ez⟩ := zip_get (l := ks) ok ed
    rw [down, e]
    show ((ks.zip ds)[i]?).bind _ = _
    rw [ez, Option.bind_some]
  | ins C fs =>
    obtain ⟨a, _, ez⟩ := zip_get (l := fs) ok ed
    rw [down, e]
    show ((fs.zip ds)[i]?).bind _ = _
    rw [ez, Option.bind_some]
/-- the part at a path, and the rest around it: the part may be put otherwise in its own place -/
theorem RpT.at : ∀ {p : List Nat} {t u : Tr} {d : D} {as : List Nat}, RpT h t d as → t.at p = some u →
    ∃ e a1 a2 a3, down h d p = some e ∧ as = a1 ++ a2 ++ a3 ∧ RpT h u e a2 ∧
      ∀ (h' : OS) (u' : Tr) (a2' : List Nat), RpT h' u' e a2' → (∀ n ∈ a1 ++ a3, ∀ o, h[n]? = some o → h'[n]? = some o) → RpT h' (t.put p u') d (a1 ++ a2' ++ a3)
  | [], t, u, d, as, r, e => by
    cases t <;> (cases e; exact ⟨d, [], as, [], by cases d <;> rfl, by simp, r, fun h' u' a2' r' _ => by simpa [Tr.put] using r'⟩)
  | i :: p, .v x, u, d, as, r, e => by cases e
  | i :: p, .n k ts, u, d, as, ⟨n, as', ds, e1, e2, e3, e4, r⟩, e => by
    unfold Tr.at at e
    split at e
    · rename_i t0 et
      obtain ⟨d0, b1, b2, b3, f1, f2, r0, put0⟩ := r.at et
      obtain ⟨x, c1, c2, c3, g1, g2, r1, put1⟩ := RpT.at r0 e
      subst e1
      subst e4
      subst f2
      subst g2
      have ld := r.len
      refine ⟨x, n :: b1 ++ c1, c2, c3 ++ b3, ?_, by simp, r1, fun h' u' a2' r' m => ?_⟩
      · rw [down_ob e2 (by rw [← ld]; exact e3) f1]
        exact g1
      · have es : (Tr.n k ts).put (i :: p) u' = .n k (ts.set i (t0.put p u')) := by
          rw [Tr.put, et]
        rw [es]
        refine ⟨n, b1 ++ (c1 ++ a2' ++ c3) ++ b3, ds, rfl, m n (by simp) _ e2, by rw [List.length_set]; exact e3, by simp, ?_⟩
        have := put0 h' (t0.put p u') d0 (c1 ++ a2' ++ c3) (put1 h' u' a2' r' fun y hy => m y (by
          rcases List.mem_append.mp hy with z | z
          · simp [z]
          · simp [z])) fun y hy => m y (by
          rcases List.mem_append.mp hy with z | z
          · simp [z]
          · simp [z])
        rw [set_same f1] at this
        exact this
    · cases e
end
end FL
end
section
/-! The value layer: a frame's names hold values; what is changed in place belongs to one name. -/
namespace FL
open PySem PySem.Spec PyProof.Rows L2

inductive W where
  | v (d : D) : W
  | l (ds : List D) : W
  | q (qs : Qs) : W
  | f (qs : Qs) : W
  | o (C : Addr) (fs : List (Str × D)) : W
  | t (x : Tr) : W
abbrev VS := List (Option W)
def W.obj : W → Option O
  | .v _ => none
  | .l ds => some (.lst ds)
  | .q qs => some (.dct qs)
  | .f qs => some (.fdc qs)
  | .o C fs => some (.ins C fs)
  | .t _ => none
/-- what is read of it -/
def W.view : W → D
  | .v d => d
  | .l ds => .lst ds
  | .q qs => .dct (qs.map (·.1)) (qs.map (·.2))
  | .f qs => .dct (qs.map (·.1)) (qs.map (·.2))
  | .o C fs => .ins C (fs.map (·.1)) (fs.map (·.2))
  | .t _ => .non
/-- .. where it is read as one -/
def W.vo : W → Option D
  | .t _ => none
  | w => some w.view
/-- the datum d stands for w; its objects are of S -/
def Rp (h : OS) (S : Nat → Prop) (w : W) (d : D) : Prop := match w with
  | .v x => d = x
  | .t x => ∃ as, RpT h x d as ∧ as.Nodup ∧ ∀ n ∈ as, S n
  | w => ∃ n, d = .ref n ∧ S n ∧ h[n]? = w.obj
theorem Rp.move {h h' : OS} {S S' : Nat → Prop} {w : W} {d : D} (r : Rp h S w d) (m : ∀ n o, S n → h[n]? = some o → h'[n]? = some o ∧ S' n) : Rp h' S' w d := by
  cases w with
  | v x => exact r
  | l ds =>
    obtain ⟨n, e, s, g⟩ := r
    have := m n _ s g
    exact ⟨n, e, this.2, this.1⟩
  | q ds =>
    obtain ⟨n, e, s, g⟩ := r
    have := m n _ s g
    exact ⟨n, e, this.2, this.1⟩
  | f ds =>
    obtain ⟨n, e, s, g⟩ := r
    have := m n _ s g
    exact ⟨n, e, this.2, this.1⟩
  | o C ds =>
    obtain ⟨n, e, s, g⟩ := r
    have := m n _ s g
    exact ⟨n, e, this.2, this.1⟩
  | t x =>
    obtain ⟨as, r, nd, hs⟩ := r
    refine ⟨as, r.keep fun n hn o e => (m n o (hs n hn) e).1, nd, fun n hn => ?_⟩
    have hl := r.lt n hn
    exact (m n _ (hs n hn) (List.getElem?_eq_getElem hl)).2
/-- d is read as x -/
def Vw (h : OS) (x d : D) : Prop := d = x ∨ ∃ n o, d = .ref n ∧ h[n]? = some o ∧ val o = x
theorem Rp.vw {h : OS} {S : Nat → Prop} {w : W} {d x : D} (r : Rp h S w d) (ex : w.vo = some x) : Vw h x d := by
  cases w with
  | t x => cases ex
  | v x =>
    cases ex
    exact Or.inl r
  | l ds =>
    cases ex
    obtain ⟨n, e, s, g⟩ := r
    exact Or.inr ⟨n, _, e, g, rfl⟩
  | q ds =>
    cases ex
    obtain ⟨n, e, s, g⟩ := r
    exact Or.inr ⟨n, _, e, g, rfl⟩
  | f ds =>
    cases ex
    obtain ⟨n, e, s, g⟩ := r
    exact Or.inr ⟨n, _, e, g, rfl⟩
  | o C ds =>
    cases ex
    obtain ⟨n, e, s, g⟩ := r
    exact Or.inr ⟨n, _, e, g, rfl⟩
theorem Vw.refl {h : OS} {d : D} : Vw h d d := Or.inl rfl
abbrev Co := Nat → Option Nat
structure RpS (h : OS) (σ : VS) (δ : DS) (c : Co) : Prop where
  len : σ.length = δ.length
  look : ∀ i w, σ[i]? = some (some w) → ∃ d, δ[i]? = some (some d) ∧ Rp h (fun n => c n = some i) w d
/-- what is no name's stays -/
structure Ch (h : OS) (c : Co) (h' : OS) (c' : Co) : Prop where
  ln : h.length ≤ h'.length
  kp : ∀ n o, h[n]? = some o → c n = none → h'[n]? = some o ∧ c' n = none
theorem Ch.refl {h : OS} {c : Co} : Ch h c h c := ⟨Nat.le_refl _, fun _ _ a b => ⟨a, b⟩⟩
theorem Ch.trans {h h1 h2 : OS} {c c1 c2 : Co} (a : Ch h c h1 c1) (b : Ch h1 c1 h2 c2) : Ch h c h2 c2 := ⟨Nat.le_trans a.ln b.ln, fun n o e z => let ⟨x, y⟩ := a.kp n o e z; b.kp n o x y⟩
/-- a set of new things -/
def Fr (h : OS) (c : Co) (h' : OS) (c' : Co) (S : Nat → Prop) : Prop := ∀ n, S n → n < h'.length ∧ c' n = none ∧ (n < h.length → c n ≠ none)
theorem look_lt {h : OS} {n : Nat} {o : O} (e : h[n]? = some o) : n < h.length := (List.getElem?_eq_some_iff.mp e).1
theorem Rp.keep {h h' : OS} {c c' : Co} {S : Nat → Prop} {w : W} {d : D} (r : Rp h S w d) (hs : ∀ n, S n → c n = none) (ch : Ch h c h' c') : Rp h' S w d := r.move fun n o s e => ⟨(ch.kp n o e (hs n s)).1, s⟩
theorem Vw.keep {h h' : OS} {c c' : Co} {S : Nat → Prop} {w : W} {d : D} (r : Rp h S w d) {x : D} (hs : ∀ n, S n → c n = none) (ch : Ch h c h' c') (ex : w.vo = some x) : Vw h' x d := (r.keep hs ch).vw ex

theorem bind_some {α β : Type} {o : Option α} {f : α → Option β} {b : β} (e : o.bind f = some b) : ∃ a, o = some a ∧ f a = some b := by
  cases o with
  | none => cases e
  | some a => exact ⟨a, rfl, e⟩
theorem map_some {α β : Type} {o : Option α} {f : α → β} {b : β} (e : o.map f = some b) : ∃ a, o = some a ∧ f a = b := by
  cases o with
  | none => cases e
  | some a =>
    cases e
    exact ⟨a, rfl, rfl⟩
/-! ### readings as functions -/
abbrev XE := VS → Option (D × VS)
abbrev XF := VS → Option (W × VS)
abbrev XT := VS → Option (Bool × VS)
abbrev XA := VS → Option (List D × VS)
def SE (t : TDE) (x : XE) : Prop := ∀ σ d σ', x σ = some (d, σ') → ∀ δ h c (R : DK), RpS h σ δ c → (∀ h' c', RpS h' σ' δ c' → Ch h c h' c' → R d h') → t δ h R
def SV (t : TDE) (x : XE) : Prop := ∀ σ d σ', x σ = some (d, σ') → ∀ δ h c (R : DK), RpS h σ δ c → (∀ d' h' c', RpS h' σ' δ c' → Ch h c h' c' → Vw h' d d' → R d' h') → t δ h R
def SF (t : TDE) (x : XF) : Prop := ∀ σ w σ', x σ = some (w, σ') → ∀ δ h c (R : DK), RpS h σ δ c → (∀ d h' c' S, RpS h' σ' δ c' → Ch h c h' c' → Rp h' S w d → Fr h c h' c' S → R d h') → t δ h R
def ST' (t : TDT) (x : XT) : Prop := ∀ σ b σ', x σ = some (b, σ') → ∀ δ h c (R : Bool → OS → Prop), RpS h σ δ c → (∀ h' c', RpS h' σ' δ c' → Ch h c h' c' → R b h') → t δ h R
def SA (t : TDA) (x : XA) : Prop := ∀ σ ds σ', x σ = some (ds, σ') → ∀ δ h c (R : List D → OS → Prop), RpS h σ δ c → (∀ h' c', RpS h' σ' δ c' → Ch h c h' c' → R ds h') → t δ h R
/-- a value as a thing; a new thing as it is read -/
def xV (x : XE) : XF := fun σ => (x σ).map fun p => (.v p.1, p.2)
def xD (x : XF) : XE := fun σ => (x σ).bind fun p => p.1.vo.map fun d => (d, p.2)
section
variable {t ta tb tc : TDE} {x xa xb xc : XE}
theorem SE.r (s : SE t x) : SV t x := fun σ d σ' e δ h c R r q => s σ d σ' e δ h c R r fun h' c' r' ch => q d h' c' r' ch Vw.refl
theorem map_pair {α β γ : Type} {o : Option (α × γ)} {f : α → β} {b : β} {s : γ} (e : (o.map fun p => (f p.1, p.2)) = some (b, s)) : ∃ a, o = some (a, s) ∧ b = f a := by
  cases o with
  | none => cases e
  | some p =>
    cases e
    exact ⟨_, rfl, rfl⟩
theorem SE.f (s : SE t x) : SF t (xV x) := fun σ w σ' e δ h c R r q => by
  obtain ⟨d, e1, rfl⟩ := map_pair e
  exact s σ d σ' e1 δ h c R r fun h' c' r' ch => q d h' c' (fun _ => False) r' ch rfl fun n z => z.elim
theorem SF.r {x : XF} (s : SF t x) : SV t (xD x) := fun σ d σ' e δ h c R r q => by
  obtain ⟨⟨w, σ1⟩, e1, e⟩ := bind_some e
  obtain ⟨x, e2, e3⟩ := map_some e
  cases e3
  exact s σ w _ e1 δ h c R r fun d' h' c' S r' ch rp fr => q d' h' c' r' ch (rp.vw e2)
/-- names -/
def xVar (i : Nat) : XE := fun σ => match σ[i]? with
  | some (some (.v d)) => some (d, σ)
  | _ => none
def xRd (i : Nat) : XE := fun σ => match σ[i]? with
  | some (some w) => w.vo.map fun d => (d, σ)
  | _ => none
def xMv (i : Nat) : XF := fun σ => match σ[i]? with
  | some (some w) => some (w, σ.set i none)
  | _ => none
theorem v_var {i : Nat} : SE (dVar i) (xVar i) := fun σ d σ' e δ h c R r q => by
  unfold xVar at e
  split at e
  · rename_i d' z
    cases e
    obtain ⟨d2, e2, e3⟩ := r.look i _ z
    have e3' : d2 = d := e3
    subst e3'
    exact ⟨_, e2, q h c r Ch.refl⟩
  · cases e
theorem v_rd {i : Nat} : SV (dVar i) (xRd i) := fun σ d σ' e δ h c R r q => by
  unfold xRd at e
  split at e
  · rename_i w z
    obtain ⟨x, ex, e0⟩ := map_some e
    cases e0
    obtain ⟨d2, e2, e3⟩ := r.look i _ z
    exact ⟨d2, e2, q d2 h c r Ch.refl (e3.vw ex)⟩
  · cases e
theorem RpS.forget {h : OS} {σ : VS} {δ : DS} {c : Co} (r : RpS h σ δ c) (i : Nat) : RpS h (σ.set i none) δ (fun n => if c n = some i then none else c n) := by
  refine ⟨by rw [List.length_set]; exact r.len, fun j w e => ?_⟩
  by_cases z : i = j
  · subst z
    by_cases hl : i < σ.length
    · rw [List.getElem?_set_self hl] at e
      cases e
    · rw [List.getElem?_eq_none (by rw [List.length_set]; omega)] at e
      cases e
  · rw [List.getElem?_set_ne z] at e
    obtain ⟨d, e1, rp⟩ := r.look j w e
    refine ⟨d, e1, rp.move fun n o s e2 => ⟨e2, ?_⟩⟩
    have s' : c n = some j := s
    show (if c n = some i then none else c n) = some j
    rw [if_neg (by rw [s']; intro y; cases y; exact z rfl)]
    exact s'
theorem Ch.forget {h : OS} {c : Co} {i : Nat} : Ch h c h (fun n => if c n = some i then none else c n) := ⟨Nat.le_refl _, fun n o e z => ⟨e, by
  show (if c n = some i then none else c n) = none
  rw [z, if_neg (by intro y; cases y)]⟩⟩
theorem v_mv {i : Nat} : SF (dVar i) (xMv i) := fun σ w σ' e δ h c R r q => by
  unfold xMv at e
  split at e
  · rename_i w z
    cases e
    obtain ⟨d2, e2, e3⟩ := r.look i _ z
    refine ⟨d2, e2, q d2 h _ (fun n => n < h.length ∧ c n = some i) (r.forget i) Ch.forget (e3.move fun n o s e => ⟨e, look_lt e, s⟩) fun n s => ⟨s.1, ?_, ?_⟩⟩
    · show (if c n = some i then none else c n) = none
      rw [if_pos s.2]
    · intro _ y
      rw [s.2] at y
      cases y
  · cases e
theorem v_c {d : D} : SE (dC d) (fun σ => some (d, σ)) := fun σ d' σ' e δ h c R r q => by
  cases e
  exact q h c r Ch.refl
def xC (d : D) : XE := fun σ => some (d, σ)
theorem v_k {d : D} : SE (dC d) (xC d) := v_c

/-! ### operations -/
abbrev G1 := D → Option D
abbrev G2 := D → D → Option D
abbrev GA := List D → Option D
def Un1 (f : F1) (g : G1) : Prop := ∀ a b r h (R : DK), g a = some r → Vw h a b → R r h → f b h R
def Bi2 (f : F2) (g : G2) : Prop := ∀ a a' b b' r h (R : DK), g a b = some r → Vw h a a' → Vw h b b' → R r h → f a' b' h R
def xOp (g : G2) (xa xb : XE) : XE := fun σ => (xa σ).bind fun p => (xb p.2).bind fun q => (g p.1 q.1).map fun r => (r, q.2)
/-- the left one a thing of a name's: read when both are there -/
def xOpP (g : G2) (i : Nat) (xb : XE) : XE := fun σ => match σ[i]? with
  | some (some _) => (xb σ).bind fun q => match q.2[i]? with
    | some (some w) => w.vo.bind fun x => (g x q.1).map fun r => (r, q.2)
    | _ => none
  | _ => none
theorem v_op {f : F2} {g : G2} (o : Bi2 f g) (ha : SE ta xa) (hb : SV tb xb) : SE (dOp f ta tb) (xOp g xa xb) := fun σ d σ' e δ h c R r q => by
  obtain ⟨⟨a, σ1⟩, e1, e⟩ := bind_some e
  obtain ⟨⟨b, σ2⟩, e2, e⟩ := bind_some e
  obtain ⟨z, e3, e4⟩ := map_some e
  cases e4
  refine ha σ a σ1 e1 δ h c _ r fun h1 c1 r1 ch1 => hb σ1 b _ e2 δ h1 c1 _ r1 fun b' h2 c2 r2 ch2 vb => ?_
  exact o a a b b' _ h2 R e3 Vw.refl vb (q h2 c2 r2 (ch1.trans ch2))
theorem v_opP {f : F2} {g : G2} {i : Nat} (o : Bi2 f g) (hb : SV tb xb) : SE (dOp f (dVar i) tb) (xOpP g i xb) := fun σ d σ' e δ h c R r q => by
  unfold xOpP at e
  split at e
  · rename_i w0 z0
    obtain ⟨d0, e0, _⟩ := r.look i _ z0
    obtain ⟨⟨b, σ2⟩, e2, e⟩ := bind_some e
    dsimp only at e
    split at e
    · rename_i w z
      obtain ⟨x, ex, e⟩ := bind_some e
      obtain ⟨y, e3, e4⟩ := map_some e
      cases e4
      refine ⟨d0, e0, hb σ b _ e2 δ h c _ r fun b' h2 c2 r2 ch2 vb => ?_⟩
      obtain ⟨d1, e5, rp⟩ := r2.look i _ z
      rw [e0] at e5
      cases e5
      exact o _ _ _ _ _ h2 R e3 (rp.vw ex) vb (q h2 c2 r2 ch2)
    · cases e
  · cases e
def xUn (g : G1) (xa : XE) : XE := fun σ => (xa σ).bind fun p => (g p.1).map fun r => (r, p.2)
theorem v_un {f : F1} {g : G1} (o : Un1 f g) (ha : SV ta xa) : SE (dUn f ta) (xUn g xa) := fun σ d σ' e δ h c R r q => by
  obtain ⟨⟨a, σ1⟩, e1, e⟩ := bind_some e
  obtain ⟨z, e3, e4⟩ := map_some e
  cases e4
  exact ha σ a _ e1 δ h c _ r fun a' h1 c1 r1 ch1 va => o _ _ _ h1 R e3 va (q h1 c1 r1 ch1)
/-! ### tests -/
def xB (x : XE) : XT := fun σ => (x σ).bind fun p => match p.1 with
  | .bl b => some (b, p.2)
  | _ => none
def xAnd (x y : XT) : XT := fun σ => (x σ).bind fun p => if p.1 = true then y p.2 else some (false, p.2)
def xOr (x y : XT) : XT := fun σ => (x σ).bind fun p => if p.1 = true then some (true, p.2) else y p.2
def xNot (x : XT) : XT := fun σ => (x σ).map fun p => (!p.1, p.2)
def xIf (x : XT) (xa xb : XE) : XE := fun σ => (x σ).bind fun p => if p.1 = true then xa p.2 else xb p.2
def xIfF (x : XT) (xa xb : XF) : XF := fun σ => (x σ).bind fun p => if p.1 = true then xa p.2 else xb p.2
def xAndV (xa xb : XE) : XE := fun σ => (xB xa σ).bind fun p => if p.1 = true then xb p.2 else some (.bl false, p.2)
def xOrV (xa xb : XE) : XE := fun σ => (xB xa σ).bind fun p => if p.1 = true then some (.bl true, p.2) else xb p.2
def xNotV (xa : XE) : XE := fun σ => (xB xa σ).map fun p => (.bl (!p.1), p.2)
def xYes : XT := fun σ => some (true, σ)
def xChain (g g' : G2) (xa xb xc : XE) : XE := fun σ => (xa σ).bind fun p => (xb p.2).bind fun q => match g p.1 q.1 with
  | some (.bl true) => (xc q.2).bind fun s => (g' q.1 s.1).map fun r => (r, s.2)
  | some (.bl false) => some (.bl false, q.2)
  | _ => none
variable {u u' : TDT} {y y' : XT}
theorem xB_some {x : XE} {σ σ' : VS} {b : Bool} (e : xB x σ = some (b, σ')) : x σ = some (.bl b, σ') := by
  obtain ⟨⟨d, σ1⟩, e1, e⟩ := bind_some e
  dsimp only at e
  split at e
  · cases e
    rw [e1]
  · cases e
theorem v_b (ha : SE ta xa) : ST' (dB ta) (xB xa) := fun σ b σ' e δ h c R r q => ha σ _ σ' (xB_some e) δ h c _ r fun h' c' r' ch => ⟨b, rfl, q h' c' r' ch⟩
theorem v_yes : ST' dYes xYes := fun σ b σ' e δ h c R r q => by
  cases e
  exact q h c r Ch.refl
theorem v_and (ha : ST' u y) (hb : ST' u' y') : ST' (dAnd u u') (xAnd y y') := fun σ b σ' e δ h c R r q => by
  obtain ⟨⟨a, σ1⟩, e1, e⟩ := bind_some e
  refine ha σ a σ1 e1 δ h c _ r fun h1 c1 r1 ch1 => ?_
  dsimp only at e ⊢
  by_cases z : a = true
  · rw [if_pos z] at e ⊢
    exact hb σ1 b σ' e δ h1 c1 R r1 fun h2 c2 r2 ch2 => q h2 c2 r2 (ch1.trans ch2)
  · rw [if_neg z] at e ⊢
    cases e
    exact q h1 c1 r1 ch1
theorem v_or (ha : ST' u y) (hb : ST' u' y') : ST' (dOr u u') (xOr y y') := fun σ b σ' e δ h c R r q => by
  obtain ⟨⟨a, σ1⟩, e1, e⟩ := bind_some e
  refine ha σ a σ1 e1 δ h c _ r fun h1 c1 r1 ch1 => ?_
  dsimp only at e ⊢
  by_cases z : a = true
  · rw [if_pos z] at e ⊢
    cases e
    exact q h1 c1 r1 ch1
  · rw [if_neg z] at e ⊢
    exact hb σ1 b σ' e δ h1 c1 R r1 fun h2 c2 r2 ch2 => q h2 c2 r2 (ch1.trans ch2)
theorem v_not (ha : ST' u y) : ST' (dNot u) (xNot y) := fun σ b σ' e δ h c R r q => by
  obtain ⟨⟨a, σ1⟩, e1, e⟩ := map_some e
  cases e
  exact ha σ a σ1 e1 δ h c _ r q
theorem v_ifE (ht : ST' u y) (ha : SE ta xa) (hb : SE tb xb) : SE (dIf u ta tb) (xIf y xa xb) := fun σ b σ' e δ h c R r q => by
  obtain ⟨⟨a, σ1⟩, e1, e⟩ := bind_some e
  refine ht σ a σ1 e1 δ h c _ r fun h1 c1 r1 ch1 => ?_
  dsimp only at e ⊢
  by_cases z : a = true
  · rw [if_pos z] at e ⊢
    exact ha σ1 b σ' e δ h1 c1 R r1 fun h2 c2 r2 ch2 => q h2 c2 r2 (ch1.trans ch2)
  · rw [if_neg z] at e ⊢
    exact hb σ1 b σ' e δ h1 c1 R r1 fun h2 c2 r2 ch2 => q h2 c2 r2 (ch1.trans ch2)
theorem v_andV (ha : SE ta xa) (hb : SE tb xb) : SE (dAndV ta tb) (xAndV xa xb) := fun σ b σ' e δ h c R r q => by
  obtain ⟨⟨a, σ1⟩, e1, e⟩ := bind_some e
  refine ha σ _ σ1 (xB_some e1) δ h c _ r fun h1 c1 r1 ch1 => ⟨a, rfl, ?_⟩
  dsimp only at e ⊢
  by_cases z : a = true
  · rw [if_pos z] at e ⊢
    exact hb σ1 b σ' e δ h1 c1 R r1 fun h2 c2 r2 ch2 => q h2 c2 r2 (ch1.trans ch2)
  · rw [if_neg z] at e ⊢
    cases e
    exact q h1 c1 r1 ch1
theorem v_orV (ha : SE ta xa) (hb : SE tb xb) : SE (dOrV ta tb) (xOrV xa xb) := fun σ b σ' e δ h c R r q => by
  obtain ⟨⟨a, σ1⟩, e1, e⟩ := bind_some e
  refine ha σ _ σ1 (xB_some e1) δ h c _ r fun h1 c1 r1 ch1 => ⟨a, rfl, ?_⟩
  dsimp only at e ⊢
  by_cases z : a = true
  · rw [if_pos z] at e ⊢
    cases e
    exact q h1 c1 r1 ch1
  · rw [if_neg z] at e ⊢
    exact hb σ1 b σ' e δ h1 c1 R r1 fun h2 c2 r2 ch2 => q h2 c2 r2 (ch1.trans ch2)
theorem v_notV (ha : SE ta xa) : SE (dNotV ta) (xNotV xa) := fun σ b σ' e δ h c R r q => by
  obtain ⟨⟨a, σ1⟩, e1, e⟩ := map_some e
  cases e
  exact ha σ _ σ1 (xB_some e1) δ h c _ r fun h1 c1 r1 ch1 => ⟨a, rfl, q h1 c1 r1 ch1⟩
theorem v_chain {f f' : F2} {g g' : G2} (o : Bi2 f g) (o' : Bi2 f' g') (ha : SE ta xa) (hb : SE tb xb) (hc : SE tc xc) : SE (dChain f f' ta tb tc) (xChain g g' xa xb xc) := fun σ d σ' e δ h c R r q => by
  obtain ⟨⟨a, σ1⟩, e1, e⟩ := bind_some e
  obtain ⟨⟨b, σ2⟩, e2, e⟩ := bind_some e
  refine ha σ a σ1 e1 δ h c _ r fun h1 c1 r1 ch1 => hb σ1 b σ2 e2 δ h1 c1 _ r1 fun h2 c2 r2 ch2 => ?_
  dsimp only at e
  split at e
  · rename_i z
    obtain ⟨⟨s, σ3⟩, e3, e⟩ := bind_some e
    obtain ⟨y, e4, e5⟩ := map_some e
    cases e5
    refine o _ _ _ _ _ h2 _ z Vw.refl Vw.refl ⟨true, rfl, ?_⟩
    exact hc σ2 s _ e3 δ h2 c2 _ r2 fun h3 c3 r3 ch3 => o' _ _ _ _ _ h3 R e4 Vw.refl Vw.refl (q h3 c3 r3 ((ch1.trans ch2).trans ch3))
  · rename_i z
    cases e
    exact o _ _ _ _ _ h2 _ z Vw.refl Vw.refl ⟨false, rfl, q h2 c2 r2 (ch1.trans ch2)⟩
  · cases e
/-! ### several values -/
def xNil : XA := fun σ => some ([], σ)
def xCons (x : XE) (y : XA) : XA := fun σ => (x σ).bind fun p => (y p.2).map fun q => (p.1 :: q.1, q.2)
variable {ts : TDA} {xs : XA}
theorem v_anil : SA dNil xNil := fun σ b σ' e δ h c R r q => by
  cases e
  exact q h c r Ch.refl
theorem v_acons (ha : SE ta xa) (hs : SA ts xs) : SA (dCons ta ts) (xCons xa xs) := fun σ b σ' e δ h c R r q => by
  obtain ⟨⟨a, σ1⟩, e1, e⟩ := bind_some e
  obtain ⟨⟨l, σ2⟩, e2, e3⟩ := map_some e
  cases e3
  exact ha σ a σ1 e1 δ h c _ r fun h1 c1 r1 ch1 => hs σ1 l _ e2 δ h1 c1 _ r1 fun h2 c2 r2 ch2 => q h2 c2 r2 (ch1.trans ch2)
def sz (ds : List D) (d : D) : Option D := if ds.length ≤ 16777216 then some d else none
def xTup (y : XA) : XE := fun σ => (y σ).bind fun p => if p.1.length ≤ 16777216 then some (.tup p.1, p.2) else none
def xLst (y : XA) : XE := fun σ => (y σ).bind fun p => if p.1.length ≤ 16777216 then some (.lst p.1, p.2) else none
def xLstN (y : XA) : XF := fun σ => (y σ).bind fun p => if p.1.length ≤ 16777216 then some (.l p.1, p.2) else none
theorem v_tup (hs : SA ts xs) : SE (dTup ts) (xTup xs) := fun σ b σ' e δ h c R r q => by
  obtain ⟨⟨l, σ1⟩, e1, e⟩ := bind_some e
  dsimp only at e
  split at e
  · rename_i z
    cases e
    exact hs σ l _ e1 δ h c _ r fun h1 c1 r1 ch1 => ⟨z, q h1 c1 r1 ch1⟩
  · cases e
theorem v_lst (hs : SA ts xs) : SE (dLst ts) (xLst xs) := fun σ b σ' e δ h c R r q => by
  obtain ⟨⟨l, σ1⟩, e1, e⟩ := bind_some e
  dsimp only at e
  split at e
  · rename_i z
    cases e
    exact hs σ l _ e1 δ h c _ r fun h1 c1 r1 ch1 => ⟨z, q h1 c1 r1 ch1⟩
  · cases e
/-- a new object at the end -/
theorem RpS.push {h : OS} {σ : VS} {δ : DS} {c : Co} (r : RpS h σ δ c) (o : O) : RpS (h ++ [o]) σ δ (fun n => if n = h.length then none else c n) ∧ Ch h c (h ++ [o]) (fun n => if n = h.length then none else c n) := by
  refine ⟨⟨r.len, fun i w e => ?_⟩, ⟨by rw [List.length_append]; exact Nat.le_add_right _ _, fun n o' e z => ⟨look_app e, ?_⟩⟩⟩
  · obtain ⟨d, e1, rp⟩ := r.look i w e
    refine ⟨d, e1, rp.move fun n o' s e2 => ⟨look_app e2, ?_⟩⟩
    have := look_lt e2
    show (if n = h.length then none else c n) = some i
    rw [if_neg (by omega)]
    exact s
  · show (if n = h.length then none else c n) = none
    split
    · rfl
    · exact z
theorem Fr.push {h0 h : OS} {c0 c : Co} {o : O} (ch : Ch h0 c0 h c) : Fr h0 c0 (h ++ [o]) (fun n => if n = h.length then none else c n) (fun n => n = h.length) := fun n s => by
  subst s
  refine ⟨by rw [List.length_append]; exact Nat.lt_succ_self _, ?_, fun z => ?_⟩
  · show (if h.length = h.length then none else c h.length) = none
    rw [if_pos rfl]
  · have := ch.ln
    omega
/-- a new thing handed on -/
theorem push_f {h0 h : OS} {c0 c : Co} {σ : VS} {δ : DS} {w : W} {o : O} {R : DK} (ch : Ch h0 c0 h c) (r : RpS h σ δ c) (ho : w.obj = some o)
    (q : ∀ d h' c' S, RpS h' σ δ c' → Ch h0 c0 h' c' → Rp h' S w d → Fr h0 c0 h' c' S → R d h') : R (.ref h.length) (h ++ [o]) := by
  obtain ⟨r2, ch2⟩ := r.push o
  refine q _ _ _ (fun n => n = h.length) r2 (ch.trans ch2) ?_ (Fr.push ch)
  cases w with
  | v d => cases ho
  | l ds => exact ⟨_, rfl, rfl, by rw [ho]; exact look_end⟩
  | q ds => exact ⟨_, rfl, rfl, by rw [ho]; exact look_end⟩
  | f ds => exact ⟨_, rfl, rfl, by rw [ho]; exact look_end⟩
  | o C ds => exact ⟨_, rfl, rfl, by rw [ho]; exact look_end⟩
  | t x => cases ho
theorem v_lstN (hs : SA ts xs) : SF (dLstN ts) (xLstN xs) := fun σ b σ' e δ h c R r q => by
  obtain ⟨⟨l, σ1⟩, e1, e⟩ := bind_some e
  dsimp only at e
  split at e
  · rename_i z
    cases e
    exact hs σ l _ e1 δ h c _ r fun h1 c1 r1 ch1 => ⟨z, push_f ch1 r1 rfl q⟩
  · cases e
def xDNew : XF := fun σ => some (.q [], σ)
theorem v_dnew : SF dDNew xDNew := fun σ b σ' e δ h c R r q => by
  cases e
  exact push_f Ch.refl r rfl q
end
end FL
end
section
/-! The value layer: statements, loops, defs, calls. -/
namespace FL
open PySem PySem.Spec PyProof.Rows L2

theorem Fr.after {h h1 h' : OS} {c c1 c' : Co} {S : Nat → Prop} (ch : Ch h c h1 c1) (f : Fr h1 c1 h' c' S) : Fr h c h' c' S := fun n s => by
  obtain ⟨a, b, d⟩ := f n s
  refine ⟨a, b, fun hl z => ?_⟩
  have e : h[n]? = some h[n] := List.getElem?_eq_getElem hl
  exact d (Nat.lt_of_lt_of_le hl ch.ln) (ch.kp n _ e z).2
/-- a new thing that is a value -/
def xP (x : XF) : XE := fun σ => (x σ).bind fun p => match p.1 with
  | .v d => some (d, p.2)
  | _ => none
theorem SF.e {t : TDE} {x : XF} (s : SF t x) : SE t (xP x) := fun σ d σ' e δ h c R r q => by
  obtain ⟨⟨w, σ1⟩, e1, e⟩ := bind_some e
  dsimp only at e
  split at e
  · rename_i d' z
    cases e
    refine s σ _ _ e1 δ h c R r fun d2 h' c' S r' ch rp fr => ?_
    have e3 : d2 = d := rp
    rw [e3]
    exact q h' c' r' ch
  · cases e

inductive Out where
  | nx (σ : VS) : Out
  | rt (w : W) (σ : VS) : Out
  | bk (σ : VS) : Out
  | ct (σ : VS) : Out
abbrev XS := VS → Option Out
def Fix (P : List Nat) (δ δ' : DS) : Prop := ∀ i ∈ P, δ'[i]? = δ[i]?
theorem Fix.refl {P : List Nat} {δ : DS} : Fix P δ δ := fun _ _ => rfl
theorem Fix.trans {P : List Nat} {δ δ1 δ2 : DS} (a : Fix P δ δ1) (b : Fix P δ1 δ2) : Fix P δ δ2 := fun i m => (b i m).trans (a i m)
def OutOk (P : List Nat) (h : OS) (c : Co) (δ : DS) (E : DEnds) : Out → Prop
  | .nx σ' => ∀ δ' h' c', RpS h' σ' δ' c' → Ch h c h' c' → Fix P δ δ' → E.nx δ' h'
  | .rt w σ' => ∀ d δ' h' c' S, RpS h' σ' δ' c' → Ch h c h' c' → Fix P δ δ' → Rp h' S w d → Fr h c h' c' S → E.rt d h'
  | .bk σ' => ∀ δ' h' c', RpS h' σ' δ' c' → Ch h c h' c' → Fix P δ δ' → E.bk δ' h'
  | .ct σ' => ∀ δ' h' c', RpS h' σ' δ' c' → Ch h c h' c' → Fix P δ δ' → E.ct δ' h'
theorem OutOk.after {P : List Nat} {h h1 : OS} {c c1 : Co} {δ δ1 : DS} {E : DEnds} {o : Out} (q : OutOk P h c δ E o) (ch : Ch h c h1 c1) (fx : Fix P δ δ1) : OutOk P h1 c1 δ1 E o := by
  cases o with
  | nx σ => exact fun δ' h' c' r ch' fx' => q δ' h' c' r (ch.trans ch') (fx.trans fx')
  | rt w σ => exact fun d δ' h' c' S r ch' fx' rp fr => q d δ' h' c' S r (ch.trans ch') (fx.trans fx') rp (fr.after ch)
  | bk σ => exact fun δ' h' c' r ch' fx' => q δ' h' c' r (ch.trans ch') (fx.trans fx')
  | ct σ => exact fun δ' h' c' r ch' fx' => q δ' h' c' r (ch.trans ch') (fx.trans fx')
def SS (P : List Nat) (t : TDS) (x : XS) : Prop := ∀ σ o, x σ = some o → ∀ δ h c E, RpS h σ δ c → OutOk P h c δ E o → t E δ h
def xNext : XS := fun σ => some (.nx σ)
def xBreak : XS := fun σ => some (.bk σ)
def xCont : XS := fun σ => some (.ct σ)
def onNx (o : Out) (f : VS → Option Out) : Option Out := match o with
  | .nx σ => f σ
  | o => some o
def xSeq (x y : XS) : XS := fun σ => (x σ).bind fun o => onNx o y
def xDrop (x : XE) : XS := fun σ => (x σ).map fun p => .nx p.2
def xDropF (x : XF) : XS := fun σ => (x σ).map fun p => .nx p.2
def xRet (x : XF) : XS := fun σ => (x σ).map fun p => .rt p.1 p.2
def xRetN : XS := fun σ => some (.rt (.v .non) σ)
def xIfS (y : XT) (a b : XS) : XS := fun σ => (y σ).bind fun p => if p.1 = true then a p.2 else b p.2
section
variable {P : List Nat} {t u : TDS} {x y : XS} {te ta tb : TDE} {xe xa xb : XE}
theorem v_next : SS P dNext xNext := fun σ o e δ h c E r q => by
  cases e
  exact q δ h c r Ch.refl Fix.refl
theorem v_break : SS P dBreak xBreak := fun σ o e δ h c E r q => by
  cases e
  exact q δ h c r Ch.refl Fix.refl
theorem v_cont : SS P dCont xCont := fun σ o e δ h c E r q => by
  cases e
  exact q δ h c r Ch.refl Fix.refl
theorem v_seq (a : SS P t x) (b : SS P u y) : SS P (dSeq t u) (xSeq x y) := fun σ o e δ h c E r q => by
  obtain ⟨o1, e1, e⟩ := bind_some e
  refine a σ o1 e1 δ h c _ r ?_
  cases o1 with
  | nx σ1 => exact fun δ' h' c' r' ch fx => b σ1 o e δ' h' c' E r' (q.after ch fx)
  | rt w σ1 =>
    cases e
    exact q
  | bk σ1 =>
    cases e
    exact q
  | ct σ1 =>
    cases e
    exact q
theorem v_drop (a : SV te xe) : SS P (dDrop te) (xDrop xe) := fun σ o e δ h c E r q => by
  obtain ⟨⟨d, σ1⟩, e1, e2⟩ := map_some e
  cases e2
  exact a σ d σ1 e1 δ h c _ r fun d' h' c' r' ch vw => q δ h' c' r' ch Fix.refl
theorem v_dropF {xe : XF} (a : SF te xe) : SS P (dDrop te) (xDropF xe) := fun σ o e δ h c E r q => by
  obtain ⟨⟨d, σ1⟩, e1, e2⟩ := map_some e
  cases e2
  exact a σ d σ1 e1 δ h c _ r fun d' h' c' S r' ch rp fr => q δ h' c' r' ch Fix.refl
theorem v_ret {xe : XF} (a : SF te xe) : SS P (dRet te) (xRet xe) := fun σ o e δ h c E r q => by
  obtain ⟨⟨d, σ1⟩, e1, e2⟩ := map_some e
  cases e2
  exact a σ d σ1 e1 δ h c _ r fun d' h' c' S r' ch rp fr => q d' δ h' c' S r' ch Fix.refl rp fr
theorem v_retN : SS P dRetN xRetN := fun σ o e δ h c E r q => by
  cases e
  exact q .non δ h c (fun _ => False) r Ch.refl Fix.refl rfl fun n z => z.elim
theorem v_ifS {tt : TDT} {yt : XT} (ht : ST' tt yt) (a : SS P t x) (b : SS P u y) : SS P (dIfS tt t u) (xIfS yt x y) := fun σ o e δ h c E r q => by
  obtain ⟨⟨d, σ1⟩, e1, e⟩ := bind_some e
  refine ht σ d σ1 e1 δ h c _ r fun h1 c1 r1 ch1 => ?_
  dsimp only at e ⊢
  by_cases z : d = true
  · rw [if_pos z] at e ⊢
    exact a σ1 o e δ h1 c1 E r1 (q.after ch1 Fix.refl)
  · rw [if_neg z] at e ⊢
    exact b σ1 o e δ h1 c1 E r1 (q.after ch1 Fix.refl)

/-! ### targets -/
abbrev YG := D → VS → Option VS
abbrev YGs := List D → VS → Option VS
def SG (P : List Nat) (g : TDG) (y : YG) : Prop := ∀ d σ σ', y d σ = some σ' → ∀ δ h c (R : DS → OS → Prop), RpS h σ δ c → (∀ δ' c', RpS h σ' δ' c' → Ch h c h c' → Fix P δ δ' → R δ' h) → g d δ h R
def SGs (P : List Nat) (g : TDGs) (y : YGs) : Prop := ∀ d σ σ', y d σ = some σ' → ∀ δ h c (R : DS → OS → Prop), RpS h σ δ c → (∀ δ' c', RpS h σ' δ' c' → Ch h c h c' → Fix P δ δ' → R δ' h) → g d δ h R
open Classical in
noncomputable def asg (c : Co) (S : Nat → Prop) (i : Nat) : Co := fun n => if S n then some i else if c n = some i then none else c n
theorem RpS.assign {h : OS} {σ : VS} {δ : DS} {c : Co} {S : Nat → Prop} {w : W} {d : D} (r : RpS h σ δ c) (i : Nat) (rp : Rp h S w d) (hs : ∀ n, S n → c n = none) : RpS h (σ.set i (some w)) (δ.set i (some d)) (asg c S i) := by
  classical
  refine ⟨by rw [List.length_set, List.length_set]; exact r.len, fun j w' e => ?_⟩
  by_cases z : i = j
  · subst z
    have hl : i < σ.length := by
      have := (List.getElem?_eq_some_iff.mp e).1
      rw [List.length_set] at this
      exact this
    rw [List.getElem?_set_self hl] at e
    cases e
    refine ⟨d, List.getElem?_set_self (by rw [← r.len]; exact hl), rp.move fun n o s e => ⟨e, ?_⟩⟩
    show asg c S i n = some i
    unfold asg
    rw [if_pos s]
  · rw [List.getElem?_set_ne z] at e
    obtain ⟨d', e1, rp'⟩ := r.look j w' e
    refine ⟨d', by rw [List.getElem?_set_ne z]; exact e1, rp'.move fun n o s e => ⟨e, ?_⟩⟩
    have s' : c n = some j := s
    show asg c S i n = some j
    unfold asg
    have h1 : ¬ S n := fun k => by
      have := (hs n k).symm.trans s'
      cases this
    have h2 : ¬ c n = some i := fun y => by
      have := y.symm.trans s'
      cases this
      exact z rfl
    rw [if_neg h1, if_neg h2]
    exact s'
theorem Ch.assign {h h' : OS} {c c' : Co} {S : Nat → Prop} {i : Nat} (ch : Ch h c h' c') (fr : Fr h c h' c' S) : Ch h c h' (asg c' S i) := ⟨ch.ln, fun n o e z => by
  classical
  obtain ⟨a, b⟩ := ch.kp n o e z
  refine ⟨a, ?_⟩
  unfold asg
  rw [if_neg fun s => (fr n s).2.2 (look_lt e) z, b, if_neg (by intro y; cases y)]⟩
theorem Fix.set {P : List Nat} {δ : DS} {i : Nat} {x : Option D} (h : i ∉ P) : Fix P δ (δ.set i x) := fun j m => List.getElem?_set_ne (by intro z; subst z; exact h m)
def yN (i : Nat) : YG := fun d σ => some (σ.set i (some (.v d)))
def ysNil : YGs := fun ds σ => match ds with
  | [] => some σ
  | _ => none
def ysCons (y : YG) (ys : YGs) : YGs := fun ds σ => match ds with
  | d :: r => (y d σ).bind fun σ1 => ys r σ1
  | [] => none
def yT (n : Nat) (ys : YGs) : YG := fun d σ => match d with
  | .tup ds => if ds.length = n then ys ds σ else none
  | _ => none
theorem v_gN {i : Nat} (hi : i ∉ P) : SG P (gN i) (yN i) := fun d σ σ' e δ h c R r q => by
  cases e
  have rp : Rp h (fun _ => False) (.v d) d := rfl
  exact q _ _ (r.assign i rp fun n z => z.elim) (Ch.refl.assign fun n z => z.elim) (Fix.set hi)
theorem v_gsNil : SGs P gsNil ysNil := fun d σ σ' e δ h c R r q => by
  cases d with
  | nil =>
    cases e
    exact ⟨rfl, q δ c r Ch.refl Fix.refl⟩
  | cons a b => cases e
theorem v_gsCons {g : TDG} {gs : TDGs} {y : YG} {ys : YGs} (a : SG P g y) (b : SGs P gs ys) : SGs P (gsCons g gs) (ysCons y ys) := fun d σ σ' e δ h c R r q => by
  cases d with
  | nil => cases e
  | cons d ds =>
    obtain ⟨σ1, e1, e2⟩ := bind_some e
    exact ⟨d, ds, rfl, a d σ σ1 e1 δ h c _ r fun δ1 c1 r1 ch1 fx1 => b ds σ1 σ' e2 δ1 h c1 R r1 fun δ2 c2 r2 ch2 fx2 => q δ2 c2 r2 (ch1.trans ch2) (fx1.trans fx2)⟩
theorem v_gT {n : Nat} {gs : TDGs} {ys : YGs} (a : SGs P gs ys) : SG P (gT n gs) (yT n ys) := fun d σ σ' e δ h c R r q => by
  cases d with
  | tup ds =>
    unfold yT at e
    dsimp only at e
    split at e
    · rename_i z
      exact ⟨ds, rfl, z, a ds σ σ' e δ h c R r q⟩
    · cases e
  | _ => cases e
def xAsg (x : XE) (y : YG) : XS := fun σ => (x σ).bind fun p => (y p.1 p.2).map .nx
def xAsgF (x : XF) (i : Nat) : XS := fun σ => (x σ).map fun p => .nx (p.2.set i (some p.1))
theorem v_asg {g : TDG} {yg : YG} (a : SE te xe) (b : SG P g yg) : SS P (dAsg te g) (xAsg xe yg) := fun σ o e δ h c E r q => by
  obtain ⟨⟨d, σ1⟩, e1, e⟩ := bind_some e
  obtain ⟨σ2, e2, e3⟩ := map_some e
  cases e3
  exact a σ d σ1 e1 δ h c _ r fun h1 c1 r1 ch1 => b d σ1 σ2 e2 δ h1 c1 _ r1 fun δ2 c2 r2 ch2 fx => q δ2 h1 c2 r2 (ch1.trans ch2) fx
theorem v_asgF {i : Nat} {xe : XF} (hi : i ∉ P) (a : SF te xe) : SS P (dAsg te (gN i)) (xAsgF xe i) := fun σ o e δ h c E r q => by
  obtain ⟨⟨d, σ1⟩, e1, e2⟩ := map_some e
  cases e2
  exact a σ d σ1 e1 δ h c _ r fun d' h1 c1 S r1 ch1 rp fr => q _ h1 _ (r1.assign i rp fun n s => (fr n s).2.1) (ch1.assign fr) (Fix.set hi)
def xPar (i j : Nat) (x : XA) : XS := fun σ => (x σ).bind fun p => match p.1 with
  | [a, b] => some (.nx ((p.2.set i (some (.v a))).set j (some (.v b))))
  | _ => none
theorem v_par {i j : Nat} {ts : TDA} {xs : XA} (hi : i ∉ P) (hj : j ∉ P) (a : SA ts xs) : SS P (dPar i j ts) (xPar i j xs) := fun σ o e δ h c E r q => by
  obtain ⟨⟨l, σ1⟩, e1, e⟩ := bind_some e
  dsimp only at e
  split at e
  · rename_i a1 b1
    cases e
    refine a σ _ σ1 e1 δ h c _ r fun h1 c1 r1 ch1 => ⟨a1, b1, rfl, ?_⟩
    have rp : Rp h1 (fun _ => False) (.v a1) a1 := rfl
    have rp2 : Rp h1 (fun _ => False) (.v b1) b1 := rfl
    exact q _ h1 _ ((r1.assign i rp fun n z => z.elim).assign j rp2 fun n z => z.elim) ((ch1.assign (i := i) (S := fun _ => False) fun n z => z.elim).assign fun n z => z.elim) ((Fix.set hi).trans (Fix.set hj))
  · cases e
def xAug (f : Int → Int → Int) (i : Nat) (x : XE) : XS := fun σ => match σ[i]? with
  | some (some (.v (.int a))) => (x σ).bind fun p => match p.1 with
    | .int b => some (.nx (p.2.set i (some (.v (.int (f a b))))))
    | _ => none
  | _ => none
theorem v_aug {f : Int → Int → Int} {i : Nat} (hi : i ∉ P) (a : SE te xe) : SS P (dAugI f i te) (xAug f i xe) := fun σ o e δ h c E r q => by
  unfold xAug at e
  split at e
  · rename_i a0 z
    obtain ⟨d0, e0, e0'⟩ := r.look i _ z
    have e0'' : d0 = .int a0 := e0'
    subst e0''
    obtain ⟨⟨d, σ1⟩, e1, e⟩ := bind_some e
    dsimp only at e
    split at e
    · rename_i b
      cases e
      refine ⟨a0, e0, a σ _ σ1 e1 δ h c _ r fun h1 c1 r1 ch1 => ⟨b, rfl, ?_⟩⟩
      have rp : Rp h1 (fun _ => False) (.v (.int (f a0 b))) (.int (f a0 b)) := rfl
      exact q _ h1 _ (r1.assign i rp fun n z => z.elim) (ch1.assign fun n z => z.elim) (Fix.set hi)
    · cases e
  · cases e
/-- a name's own object changes -/
theorem RpS.put {h : OS} {σ : VS} {δ : DS} {c : Co} {w w' : W} {o o' : O} {j : Nat} (r : RpS h σ δ c) (e : σ[j]? = some (some w)) (ho : w.obj = some o) (ho' : w'.obj = some o') :
    ∃ n, δ[j]? = some (some (.ref n)) ∧ h[n]? = some o ∧ RpS (h.set n o') (σ.set j (some w')) δ c ∧ Ch h c (h.set n o') c := by
  obtain ⟨d, e1, rp⟩ := r.look j w e
  have key : ∃ n, d = .ref n ∧ c n = some j ∧ h[n]? = some o := by
    cases w with
    | v x => cases ho
    | l ds =>
      obtain ⟨n, a, b, g⟩ := rp
      exact ⟨n, a, b, g.trans ho⟩
    | q ds =>
      obtain ⟨n, a, b, g⟩ := rp
      exact ⟨n, a, b, g.trans ho⟩
    | f ds =>
      obtain ⟨n, a, b, g⟩ := rp
      exact ⟨n, a, b, g.trans ho⟩
    | o C ds =>
      obtain ⟨n, a, b, g⟩ := rp
      exact ⟨n, a, b, g.trans ho⟩
    | t x => cases ho
  obtain ⟨n, rfl, cn, hn⟩ := key
  refine ⟨n, e1, hn, ⟨by rw [List.length_set]; exact r.len, fun i w2 e2 => ?_⟩, ⟨by rw [List.length_set]; exact Nat.le_refl _, fun m o2 e2 z => ⟨?_, z⟩⟩⟩
  · by_cases z : j = i
    · subst z
      rw [List.getElem?_set_self (List.getElem?_eq_some_iff.mp e).1] at e2
      cases e2
      refine ⟨_, e1, ?_⟩
      cases w' with
      | v x => cases ho'
      | l ds => exact ⟨n, rfl, cn, by rw [ho']; exact look_set hn⟩
      | q ds => exact ⟨n, rfl, cn, by rw [ho']; exact look_set hn⟩
      | f ds => exact ⟨n, rfl, cn, by rw [ho']; exact look_set hn⟩
      | o C ds => exact ⟨n, rfl, cn, by rw [ho']; exact look_set hn⟩
      | t x => cases ho'
    · rw [List.getElem?_set_ne z] at e2
      obtain ⟨d2, e3, rp2⟩ := r.look i w2 e2
      refine ⟨d2, e3, rp2.move fun m o2 s e4 => ⟨?_, s⟩⟩
      rw [List.getElem?_set_ne fun y => ?_]
      · exact e4
      · subst y
        rw [show c n = some i from s] at cn
        cases cn
        exact z rfl
  · rw [List.getElem?_set_ne fun y => ?_]
    · exact e2
    · subst y
      rw [cn] at z
      cases z
/-- xs[k] = d -/
def xSetL (j : Nat) (xi : XE) (x : XE) : XS := fun σ => (x σ).bind fun p => match p.2[j]? with
  | some (some _) => (xi p.2).bind fun q => match q.1, q.2[j]? with
    | .int k, some (some (.l ds)) => (ixN ds.length k).map fun m => .nx (q.2.set j (some (.l (ds.set m p.1))))
    | _, _ => none
  | _ => none
theorem v_setL {j : Nat} {ti : TDE} {xi : XE} (a : SE te xe) (b : SE ti xi) : SS P (dAsg te (gSubL (dVar j) ti)) (xSetL j xi xe) := fun σ o e δ h c E r q => by
  obtain ⟨⟨d, σ1⟩, e1, e⟩ := bind_some e
  refine a σ d σ1 e1 δ h c _ r fun h1 c1 r1 ch1 => ?_
  dsimp only at e
  split at e
  · rename_i w0 z0
    obtain ⟨d0, e0, _⟩ := r1.look j _ z0
    obtain ⟨⟨dk, σ2⟩, e2, e⟩ := bind_some e
    dsimp only at e
    split at e
    · rename_i k ds z1
      obtain ⟨m, e3, e4⟩ := map_some e
      cases e4
      refine ⟨d0, e0, b σ1 _ σ2 e2 δ h1 c1 _ r1 fun h2 c2 r2 ch2 => ?_⟩
      obtain ⟨n, e5, e6, r3, ch3⟩ := r2.put (w' := .l (ds.set m d)) z1 rfl rfl
      rw [e0] at e5
      cases e5
      exact ⟨n, k, ds, m, rfl, rfl, e6, e3, q δ _ _ r3 ((ch1.trans ch2).trans ch3) Fix.refl⟩
    · cases e
  · cases e
/-- d[k] = v -/
def xDPut (j : Nat) (xk : XE) (x : XE) : XS := fun σ => (x σ).bind fun p => match p.2[j]? with
  | some (some _) => (xk p.2).bind fun q => match keyD q.1, q.2[j]? with
    | some k, some (some (.q qs)) => if qs.length < 16777216 then some (.nx (q.2.set j (some (.q (putQ qs k p.1))))) else none
    | _, _ => none
  | _ => none
theorem v_dput {j : Nat} {tk : TDE} {xk : XE} (a : SE te xe) (b : SE tk xk) : SS P (dDPut (dVar j) tk te) (xDPut j xk xe) := fun σ o e δ h c E r q => by
  obtain ⟨⟨d, σ1⟩, e1, e⟩ := bind_some e
  refine a σ d σ1 e1 δ h c _ r fun h1 c1 r1 ch1 => ?_
  dsimp only at e
  split at e
  · rename_i w0 z0
    obtain ⟨d0, e0, _⟩ := r1.look j _ z0
    obtain ⟨⟨dk, σ2⟩, e2, e⟩ := bind_some e
    dsimp only at e
    split at e
    · rename_i k qs z1 z2
      split at e
      · rename_i hl
        cases e
        refine ⟨d0, e0, b σ1 _ σ2 e2 δ h1 c1 _ r1 fun h2 c2 r2 ch2 => ?_⟩
        obtain ⟨n, e5, e6, r3, ch3⟩ := r2.put (w' := .q (putQ qs k d)) z2 rfl rfl
        rw [e0] at e5
        cases e5
        exact ⟨n, qs, k, rfl, e6, z1, hl, q δ _ _ r3 ((ch1.trans ch2).trans ch3) Fix.refl⟩
      · cases e
    · cases e
  · cases e
/-- xs.append(d) -/
def xApp (j : Nat) (x : XE) : XE := fun σ => match σ[j]? with
  | some (some (.l _)) => (x σ).bind fun p => match p.2[j]? with
    | some (some (.l ds)) => if ds.length < 16777216 then some (.non, p.2.set j (some (.l (ds ++ [p.1])))) else none
    | _ => none
  | _ => none
theorem v_app {j : Nat} (a : SE te xe) : SE (dBM "list" mAppend (dVar j) (dCons te dNil)) (xApp j xe) := fun σ d σ' e δ h c R r q => by
  unfold xApp at e
  split at e
  · rename_i ds0 z0
    obtain ⟨d0, e0, n0, rfl, cn, hn⟩ := r.look j _ z0
    obtain ⟨⟨dv, σ1⟩, e1, e⟩ := bind_some e
    refine ⟨_, e0, Or.inl ⟨rfl, ds0, hn⟩, a σ _ σ1 e1 δ h c _ r fun h1 c1 r1 ch1 => ?_⟩
    dsimp only at e
    split at e
    · rename_i ds z1
      split at e
      · rename_i hl
        cases e
        obtain ⟨n, e5, e6, r3, ch3⟩ := r1.put (w' := .l (ds ++ [dv])) z1 rfl rfl
        rw [e0] at e5
        cases e5
        exact ⟨_, dv, ds, rfl, rfl, e6, hl, q _ _ r3 (ch1.trans ch3)⟩
      · cases e
    · cases e
  · cases e
end
end FL
end
section
/-! The value layer: loops, defs, calls. -/
namespace FL
open PySem PySem.Spec PyProof.Rows L2

/-! ### loops -/
abbrev XI := VS → Option ((List D × (VS → Prop)) × VS)
def SI (P : List Nat) (t : TDI) (y : XI) : Prop := ∀ σ its gd σ', y σ = some ((its, gd), σ') → ∀ δ h c (RS : Src → OS → Prop), RpS h σ δ c →
  (∀ h' c' (G : OS → Prop), RpS h' σ' δ c' → Ch h c h' c' → (∀ σ2 δ2 h2 c2, RpS h2 σ2 δ2 c2 → Ch h' c' h2 c2 → Fix P δ δ2 → gd σ2 → G h2) → RS ⟨its, G⟩ h') → t δ h RS
open Classical in
noncomputable def forL (y : YG) (x : XS) (gd : VS → Prop) : List D → VS → Option Out
  | [], σ => if gd σ then some (.nx σ) else none
  | d :: ds, σ => if gd σ then (y d σ).bind fun σ1 => (x σ1).bind fun o => match o with
    | .nx σ2 => forL y x gd ds σ2
    | .ct σ2 => forL y x gd ds σ2
    | .bk σ2 => some (.nx σ2)
    | .rt w σ2 => some (.rt w σ2) else none
noncomputable def xFor (s : XI) (y : YG) (x : XS) : XS := fun σ => (s σ).bind fun p => forL y x p.1.2 p.1.1 p.2
theorem forL_gd {y : YG} {x : XS} {gd : VS → Prop} {ds : List D} {σ : VS} {o : Out} (e : forL y x gd ds σ = some o) : gd σ := by
  cases ds with
  | nil =>
    unfold forL at e
    split at e
    · assumption
    · cases e
  | cons d ds =>
    unfold forL at e
    split at e
    · assumption
    · cases e
section
variable {P : List Nat} {te ta tb : TDE} {xe xa xb : XE} {tbd : TDS} {x : XS} {ti : TDI} {s : XI} {g : TDG} {y : YG}
theorem drop_get {α : Type} {l : List α} {i : Nat} {a : α} (e : l[i]? = some a) : l.drop i = a :: l.drop (i + 1) := by
  have hl := (List.getElem?_eq_some_iff.mp e)
  obtain ⟨h1, h2⟩ := hl
  rw [List.drop_eq_getElem_cons h1, h2]
theorem v_for (hs : SI P ti s) (hg : SG P g y) (hb : SS P tbd x) : SS P (dFor ti g tbd) (xFor s y x) := fun σ o e δ h c E r q => by
  obtain ⟨⟨⟨its, gd⟩, σ1⟩, e1, e⟩ := bind_some e
  refine hs σ its gd σ1 e1 δ h c _ r fun h1 c1 G r1 ch1 hG => ?_
  refine ⟨fun i δ2 h2 => ∃ σ2 c2, RpS h2 σ2 δ2 c2 ∧ Ch h1 c1 h2 c2 ∧ Fix P δ δ2 ∧ forL y x gd (its.drop i) σ2 = some o, ⟨σ1, c1, r1, Ch.refl, Fix.refl, e⟩, ?_, ?_, ?_⟩
  · rintro i δ2 h2 _ ⟨σ2, c2, r2, ch2, fx, e2⟩
    exact hG σ2 δ2 h2 c2 r2 ch2 fx (forL_gd e2)
  · rintro i d δ2 h2 ei ⟨σ2, c2, r2, ch2, fx, e2⟩
    have ei' : its[i]? = some d := ei
    rw [drop_get ei'] at e2
    unfold forL at e2
    split at e2
    · obtain ⟨σ3, e3, e2⟩ := bind_some e2
      obtain ⟨o', e4, e2⟩ := bind_some e2
      refine hg d σ2 σ3 e3 δ2 h2 c2 _ r2 fun δ3 c3 r3 ch3 fx3 => ?_
      have q1 : OutOk P h2 c3 δ3 E o := q.after ((ch1.trans ch2).trans ch3) (fx.trans fx3)
      refine hb σ3 o' e4 δ3 h2 c3 _ r3 ?_
      cases o' with
      | nx σ4 => exact fun δ4 h4 c4 r4 ch4 fx4 => ⟨δ4, h4, Drp.keep Less.refl, σ4, c4, r4, (ch2.trans ch3).trans ch4, (fx.trans fx3).trans fx4, e2⟩
      | ct σ4 => exact fun δ4 h4 c4 r4 ch4 fx4 => ⟨δ4, h4, Drp.keep Less.refl, σ4, c4, r4, (ch2.trans ch3).trans ch4, (fx.trans fx3).trans fx4, e2⟩
      | bk σ4 =>
        cases e2
        exact q1
      | rt w σ4 =>
        cases e2
        exact q1
    · cases e2
  · rintro δ2 h2 ⟨σ2, c2, r2, ch2, fx, e2⟩
    have e0 : its.drop its.length = [] := List.drop_length
    have e2' : forL y x gd (its.drop its.length) σ2 = some o := e2
    rw [e0] at e2'
    unfold forL at e2'
    split at e2'
    · cases e2'
      exact q δ2 h2 c2 r2 (ch1.trans ch2) fx
    · cases e2'
abbrev gdT : VS → Prop := fun _ => True
def iL (x : XE) : XI := fun σ => (x σ).bind fun p => match p.1 with
  | .lst ds => some ((ds, gdT), p.2)
  | .scr ds => some ((ds, gdT), p.2)
  | _ => none
def iT (x : XE) : XI := fun σ => (x σ).bind fun p => match p.1 with
  | .tup ds => some ((ds, gdT), p.2)
  | _ => none
def iP (i : Nat) : XI := fun σ => match σ[i]? with
  | some (some (.l ds)) => some ((ds, fun σ2 => σ2[i]? = some (some (.l ds))), σ)
  | _ => none
def iF (x : XF) : XI := fun σ => (x σ).bind fun p => match p.1 with
  | .l ds => some ((ds, gdT), p.2)
  | .v (.lst ds) => some ((ds, gdT), p.2)
  | _ => none
def iR1 (x : XE) : XI := fun σ => (x σ).bind fun p => match p.1 with
  | .int j => if -(2 ^ 62) ≤ j ∧ j < 2 ^ 62 then some (((List.range j.toNat).map fun k => D.int (k : Nat), gdT), p.2) else none
  | _ => none
def iR2 (x y : XE) : XI := fun σ => (x σ).bind fun p => (y p.2).bind fun q => match p.1, q.1 with
  | .int i, .int j => if -(2 ^ 62) ≤ i ∧ i < 2 ^ 62 ∧ -(2 ^ 62) ≤ j ∧ j < 2 ^ 62 then some (((List.range (j - i).toNat).map fun k => D.int (i + (k : Nat)), gdT), q.2) else none
  | _, _ => none
theorem v_iL (a : SE te xe) : SI P (iSeq te) (iL xe) := fun σ its gd σ' e δ h c RS r q => by
  obtain ⟨⟨d, σ1⟩, e1, e⟩ := bind_some e
  refine a σ d σ1 e1 δ h c _ r fun h1 c1 r1 ch1 => ?_
  dsimp only at e
  split at e
  · cases e
    exact ⟨its, rfl, q h1 c1 _ r1 ch1 fun _ _ _ _ _ _ _ _ => trivial⟩
  · cases e
    exact ⟨its, rfl, q h1 c1 _ r1 ch1 fun _ _ _ _ _ _ _ _ => trivial⟩
  · cases e
theorem v_iT (a : SE te xe) : SI P (iTupD te) (iT xe) := fun σ its gd σ' e δ h c RS r q => by
  obtain ⟨⟨d, σ1⟩, e1, e⟩ := bind_some e
  refine a σ d σ1 e1 δ h c _ r fun h1 c1 r1 ch1 => ?_
  dsimp only at e
  split at e
  · cases e
    exact ⟨its, rfl, q h1 c1 _ r1 ch1 fun _ _ _ _ _ _ _ _ => trivial⟩
  · cases e
theorem v_iP {i : Nat} (hi : i ∈ P) : SI P (iSeq (dVar i)) (iP i) := fun σ its gd σ' e δ h c RS r q => by
  unfold iP at e
  split at e
  · rename_i ds z
    cases e
    obtain ⟨d, e1, n, rfl, cn, hn⟩ := r.look i _ z
    refine ⟨_, e1, its, hn, q h c _ r Ch.refl fun σ2 δ2 h2 c2 r2 ch2 fx g => ?_⟩
    obtain ⟨d2, e2, n2, rfl, cn2, hn2⟩ := r2.look i _ g
    rw [fx i hi, e1] at e2
    cases e2
    exact hn2
  · cases e
theorem v_iF {xe : XF} (a : SF te xe) : SI P (iSeq te) (iF xe) := fun σ its gd σ' e δ h c RS r q => by
  obtain ⟨⟨w, σ1⟩, e1, e⟩ := bind_some e
  refine a σ w σ1 e1 δ h c _ r fun d h1 c1 S r1 ch1 rp fr => ?_
  dsimp only at e
  split at e
  · cases e
    obtain ⟨n, rfl, sn, hn⟩ := rp
    exact ⟨its, hn, q h1 c1 _ r1 ch1 fun σ2 δ2 h2 c2 r2 ch2 fx g => (ch2.kp n _ hn (fr n sn).2.1).1⟩
  · cases e
    have : d = .lst its := rp
    subst this
    exact ⟨its, rfl, q h1 c1 _ r1 ch1 fun _ _ _ _ _ _ _ _ => trivial⟩
  · cases e
theorem v_iR1 (a : SE te xe) : SI P (iRange1 te) (iR1 xe) := fun σ its gd σ' e δ h c RS r q => by
  obtain ⟨⟨d, σ1⟩, e1, e⟩ := bind_some e
  refine a σ d σ1 e1 δ h c _ r fun h1 c1 r1 ch1 => ?_
  dsimp only at e
  split at e
  · split at e
    · rename_i z
      cases e
      exact ⟨_, rfl, z.1, z.2, q h1 c1 _ r1 ch1 fun _ _ _ _ _ _ _ _ => trivial⟩
    · cases e
  · cases e
theorem v_iR2 (a : SE ta xa) (b : SE tb xb) : SI P (iRange2 ta tb) (iR2 xa xb) := fun σ its gd σ' e δ h c RS r q => by
  obtain ⟨⟨d, σ1⟩, e1, e⟩ := bind_some e
  obtain ⟨⟨d2, σ2⟩, e2, e⟩ := bind_some e
  refine a σ d σ1 e1 δ h c _ r fun h1 c1 r1 ch1 => b σ1 d2 σ2 e2 δ h1 c1 _ r1 fun h2 c2 r2 ch2 => ?_
  dsimp only at e
  split at e
  · split at e
    · rename_i z
      cases e
      exact ⟨_, _, rfl, rfl, z, q h2 c2 _ r2 (ch1.trans ch2) fun _ _ _ _ _ _ _ _ => trivial⟩
    · cases e
  · cases e
/-! while -/
def whileN (y : XT) (x : XS) : Nat → VS → Option Out
  | 0, _ => none
  | n + 1, σ => (y σ).bind fun p => if p.1 = true then (x p.2).bind fun o => match o with
    | .nx σ2 => whileN y x n σ2
    | .ct σ2 => whileN y x n σ2
    | .bk σ2 => some (.nx σ2)
    | .rt w σ2 => some (.rt w σ2) else some (.nx p.2)
theorem whileN_mono {y : XT} {x : XS} : ∀ {n : Nat} {σ : VS} {o : Out} (k : Nat), whileN y x n σ = some o → whileN y x (n + k) σ = some o
  | 0, _, _, _, e => by cases e
  | n + 1, σ, o, k, e => by
    rw [show n + 1 + k = (n + k) + 1 by omega]
    unfold whileN at e ⊢
    obtain ⟨p, e1, e⟩ := bind_some e
    rw [e1]
    show (if p.1 = true then _ else _) = _
    split
    · rename_i z
      rw [if_pos z] at e
      obtain ⟨o', e2, e⟩ := bind_some e
      rw [e2]
      cases o' with
      | nx σ2 => exact whileN_mono k e
      | ct σ2 => exact whileN_mono k e
      | bk σ2 => exact e
      | rt w σ2 => exact e
    · rename_i z
      rw [if_neg z] at e
      exact e
open Classical in
noncomputable def xWhile (y : XT) (x : XS) : XS := fun σ => if h : ∃ o n, whileN y x n σ = some o then some h.choose else none
theorem xWhile_of {y : XT} {x : XS} {n : Nat} {σ : VS} {o : Out} (e : whileN y x n σ = some o) : xWhile y x σ = some o := by
  unfold xWhile
  have hh : ∃ o n, whileN y x n σ = some o := ⟨o, n, e⟩
  rw [dif_pos hh]
  obtain ⟨m, em⟩ := hh.choose_spec
  have a := whileN_mono m e
  have b := whileN_mono n em
  rw [Nat.add_comm] at b
  rw [a] at b
  exact b.symm
theorem v_while {tt : TDT} {yt : XT} (ht : ST' tt yt) (hb : SS P tbd x) : SS P (dWhile tt tbd) (xWhile yt x) := fun σ o e δ h c E r q => by
  unfold xWhile at e
  split at e
  · rename_i hh
    obtain ⟨m, em⟩ := hh.choose_spec
    injection e with e
    rw [e] at em
    refine ⟨fun m δ2 h2 => ∃ σ2 c2, RpS h2 σ2 δ2 c2 ∧ Ch h c h2 c2 ∧ Fix P δ δ2 ∧ whileN yt x m σ2 = some o, ⟨m, σ, c, r, Ch.refl, Fix.refl, em⟩, ?_⟩
    rintro k δ2 h2 ⟨σ2, c2, r2, ch2, fx, e2⟩
    cases k with
    | zero => cases e2
    | succ k =>
      unfold whileN at e2
      obtain ⟨⟨b, σ3⟩, e3, e2⟩ := bind_some e2
      refine ht σ2 b σ3 e3 δ2 h2 c2 _ r2 fun h3 c3 r3 ch3 => ?_
      dsimp only at e2 ⊢
      have q1 : OutOk P h3 c3 δ2 E o := q.after (ch2.trans ch3) fx
      by_cases z : b = true
      · rw [if_pos z] at e2 ⊢
        obtain ⟨o', e4, e2⟩ := bind_some e2
        refine hb σ3 o' e4 δ2 h3 c3 _ r3 ?_
        cases o' with
        | nx σ4 => exact fun δ4 h4 c4 r4 ch4 fx4 => ⟨δ4, h4, k, Drp.keep Less.refl, Nat.lt_succ_self _, σ4, c4, r4, (ch2.trans ch3).trans ch4, fx.trans fx4, e2⟩
        | ct σ4 => exact fun δ4 h4 c4 r4 ch4 fx4 => ⟨δ4, h4, k, Drp.keep Less.refl, Nat.lt_succ_self _, σ4, c4, r4, (ch2.trans ch3).trans ch4, fx.trans fx4, e2⟩
        | bk σ4 =>
          cases e2
          exact q1
        | rt w σ4 =>
          cases e2
          exact q1
      · rw [if_neg z] at e2 ⊢
        cases e2
        exact q1 δ2 h3 c3 r3 Ch.refl Fix.refl
  · cases e
end

/-! ### defs -/
structure RpL (h : OS) (ws : List W) (ds : List D) (c : Co) : Prop where
  len : ws.length = ds.length
  look : ∀ k w, ws[k]? = some w → ∃ d, ds[k]? = some d ∧ Rp h (fun n => c n = some k) w d
abbrev VF := List W → Option (W × List W)
def outW (refs : List Nat) : Nat → List W → VS → Option (List W)
  | _, [], _ => some []
  | k, w :: ws, σ => (if k ∈ refs then (match σ[k]? with
      | some (some w') => some w'
      | _ => none) else (match w with
      | .v d => some (.v d)
      | _ => none)).bind fun w' => (outW refs (k + 1) ws σ).map fun r => w' :: r
def runF (N : Nat) (refs : List Nat) (x : XS) : VF := fun ws => (x (ws.map some ++ List.replicate (N - ws.length) none)).bind fun o => match o with
  | .nx σ => (outW refs 0 ws σ).map fun z => (.v .non, z)
  | .rt w σ => (outW refs 0 ws σ).map fun z => (w, z)
  | _ => none
def spV (n : Nat) (F : VF) : DSp := fun ds h R _ => ds.length = n ∧ ∃ ws c w ws', RpL h ws ds c ∧ F ws = some (w, ws') ∧
  ∀ d h' c' S, RpL h' ws' ds c' → Ch h c h' c' → Rp h' S w d → Fr h c h' c' S → R d h'
theorem outW_ok {refs : List Nat} {h : OS} {c : Co} {σ : VS} {δ : DS} (r : RpS h σ δ c) : ∀ {ws : List W} {k : Nat} {ws' : List W}, outW refs k ws σ = some ws' → ∀ {ds : List D}, ws.length = ds.length → (∀ (j : Nat) (d : D), ds[j]? = some d → k + j ∈ refs → δ[k + j]? = some (some d)) →
    (∀ (j : Nat) (w : W), ws[j]? = some w → ∀ x, w = W.v x → ds[j]? = some x) → ws'.length = ds.length ∧ ∀ (j : Nat) (w : W), ws'[j]? = some w → ∃ d, ds[j]? = some d ∧ Rp h (fun n => c n = some (k + j)) w d
  | [], k, ws', e, ds, hl, h1, h2 => by
    cases e
    refine ⟨hl, fun j w e => by cases e⟩
  | w :: ws, k, ws', e, ds, hl, h1, h2 => by
    cases ds with
    | nil => cases hl
    | cons d ds =>
      unfold outW at e
      obtain ⟨w', e1, e⟩ := bind_some e
      obtain ⟨r', e2, e3⟩ := map_some e
      subst e3
      have ih := outW_ok r e2 (ds := ds) (by simpa using hl) (fun j d' e hm => by
        have := h1 (j + 1) d' e (by rw [show k + (j + 1) = k + 1 + j by omega]; exact hm)
        rw [show k + (j + 1) = k + 1 + j by omega] at this
        exact this) (fun j w e x hx => h2 (j + 1) w e x hx)
      refine ⟨by rw [List.length_cons, ih.1, List.length_cons], fun j v ej => ?_⟩
      cases j with
      | zero =>
        cases ej
        refine ⟨d, rfl, ?_⟩
        split at e1
        · rename_i hm
          split at e1
          · rename_i w2 z
            cases e1
            obtain ⟨d2, e5, rp⟩ := r.look k _ z
            have := h1 0 d rfl hm
            rw [Nat.add_zero] at this
            rw [this] at e5
            cases e5
            exact rp
          · cases e1
        · split at e1
          · rename_i x
            cases e1
            have := h2 0 _ rfl x rfl
            cases this
            exact rfl
          · cases e1
      | succ j =>
        have := ih.2 j v ej
        rw [show k + (j + 1) = k + 1 + j by omega]
        exact this
theorem start_rp {h : OS} {ws : List W} {ds : List D} {c : Co} {N : List Str} {m : Nat} (r : RpL h ws ds c) (hm : N.length = m) : RpS h (ws.map some ++ List.replicate (m - ws.length) none) (startD N ds) c := by
  unfold startD
  refine ⟨by simp [r.len, hm], fun i w e => ?_⟩
  by_cases hl : i < ws.length
  · rw [List.getElem?_append_left (by simpa using hl), List.getElem?_map] at e
    rw [List.getElem?_append_left (by simpa [← r.len] using hl), List.getElem?_map]
    cases e1 : ws[i]? with
    | none =>
      rw [e1] at e
      cases e
    | some w' =>
      rw [e1] at e
      cases e
      obtain ⟨d, e2, rp⟩ := r.look i _ e1
      exact ⟨d, by rw [e2]; rfl, rp⟩
  · rw [List.getElem?_append_right (by simpa using hl)] at e
    have := List.mem_of_getElem? e
    rw [List.mem_replicate] at this
    cases this.2
theorem fn_out {refs : List Nat} {N : List Str} {h : OS} {ws : List W} {ds : List D} {c : Co} (r : RpL h ws ds c) {σ : VS} {δ : DS} {h' : OS} {c' : Co} {ws' : List W} (r' : RpS h' σ δ c') (fx : Fix refs (startD N ds) δ) (e : outW refs 0 ws σ = some ws') : RpL h' ws' ds c' := by
  have := outW_ok r' e (ds := ds) r.len (fun j d ej hm => by
    rw [Nat.zero_add] at hm ⊢
    rw [fx j hm]
    unfold startD
    have hl := (List.getElem?_eq_some_iff.mp ej).1
    rw [List.getElem?_append_left (by simpa using hl), List.getElem?_map, ej]
    rfl) (fun j w ej x hx => by
    subst hx
    obtain ⟨d, e1, rp⟩ := r.look j _ ej
    have : d = x := rp
    rw [e1, this])
  refine ⟨this.1, fun k w ek => ?_⟩
  have := this.2 k w ek
  rw [Nat.zero_add] at this
  exact this
/-- a def's reading keeps the promise of its function -/
theorem v_fn {refs : List Nat} {N : List Str} {n m : Nat} {t : TDS} {x : XS} (s : SS refs t x) (hm : N.length = m) : ∀ ds h (R : DK) (RE : DX), okOs h.length h → okRs h.length ds → spV n (runF m refs x) ds h R RE → t { nx := fun _ h' => Ret R h.length .non h', rt := Ret R h.length } (startD N ds) h := by
  rintro ds h R RE _ _ ⟨_, ws, c, w, ws', r, e, q⟩
  unfold runF at e
  obtain ⟨o, e1, e⟩ := bind_some e
  refine s _ o e1 (startD N ds) h c _ (start_rp r hm) ?_
  cases o with
  | nx σ =>
    obtain ⟨z, e2, e3⟩ := map_some e
    cases e3
    exact fun δ' h' c' r' ch fx => Or.inl (q .non h' c' (fun _ => False) (fn_out r r' fx e2) ch rfl fun n z => z.elim)
  | rt w σ =>
    obtain ⟨z, e2, e3⟩ := map_some e
    cases e3
    exact fun d δ' h' c' S r' ch fx rp fr => Or.inl (q d h' c' S (fn_out r r' fx e2) ch rp fr)
  | bk σ => cases e
  | ct σ => cases e
end FL
end
section
/-! The value layer: calls. -/
namespace FL
open PySem PySem.Spec PyProof.Rows L2

/-! ### arguments: a name's own object by its name, or a value -/
inductive Ar where
  | rf (i : Nat) : Ar
  | ex (x : XF) : Ar
abbrev Us := List (Nat ⊕ W)
def evA : List Ar → VS → Option (Us × VS)
  | [], σ => some ([], σ)
  | .rf i :: as, σ => match σ[i]? with
    | some (some _) => (evA as σ).map fun p => (Sum.inl i :: p.1, p.2)
    | _ => none
  | .ex x :: as, σ => (x σ).bind fun p => (evA as p.2).map fun q => (Sum.inr p.1 :: q.1, q.2)
def ArOk (h : OS) (δ : DS) (g : Co) : Nat → Us → List D → Prop
  | _, [], [] => True
  | k, Sum.inl i :: us, d :: ds => δ[i]? = some (some d) ∧ ArOk h δ g (k + 1) us ds
  | k, Sum.inr w :: us, d :: ds => Rp h (fun n => g n = some k) w d ∧ ArOk h δ g (k + 1) us ds
  | _, _, _ => False
/-- new things, by the argument's place from k on -/
def FrG (h : OS) (c : Co) (h' : OS) (c' : Co) (g : Co) (k : Nat) : Prop := ∀ n j, g n = some j → k ≤ j ∧ n < h'.length ∧ c' n = none ∧ (n < h.length → c n ≠ none)
def SAr (t : TDA) (as : List Ar) : Prop := ∀ k σ us σ', evA as σ = some (us, σ') → ∀ δ h c (R : List D → OS → Prop), RpS h σ δ c →
  (∀ ds h' c' g, RpS h' σ' δ c' → Ch h c h' c' → ArOk h' δ g k us ds → FrG h c h' c' g k → R ds h') → t δ h R
theorem ArOk.move {h h' : OS} {δ : DS} {g g' : Co} : ∀ {k : Nat} {us : Us} {ds : List D}, ArOk h δ g k us ds → (∀ n o j, k ≤ j → g n = some j → h[n]? = some o → h'[n]? = some o ∧ g' n = some j) → ArOk h' δ g' k us ds
  | _, [], [], _, _ => trivial
  | k, Sum.inl i :: us, d :: ds, a, m => ⟨a.1, ArOk.move a.2 fun n o j hj e1 e2 => m n o j (by omega) e1 e2⟩
  | k, Sum.inr w :: us, d :: ds, a, m => ⟨a.1.move fun n o s e => m n o k (Nat.le_refl _) s e, ArOk.move a.2 fun n o j hj e1 e2 => m n o j (by omega) e1 e2⟩
  | _, [], _ :: _, a, _ => a.elim
  | _, Sum.inl _ :: _, [], a, _ => a.elim
  | _, Sum.inr _ :: _, [], a, _ => a.elim
theorem ArOk.len {h : OS} {δ : DS} {g : Co} : ∀ {k : Nat} {us : Us} {ds : List D}, ArOk h δ g k us ds → ds.length = us.length
  | _, [], [], _ => rfl
  | k, Sum.inl i :: us, d :: ds, a => by rw [List.length_cons, List.length_cons, ArOk.len a.2]
  | k, Sum.inr w :: us, d :: ds, a => by rw [List.length_cons, List.length_cons, ArOk.len a.2]
  | _, [], _ :: _, a => a.elim
  | _, Sum.inl _ :: _, [], a => a.elim
  | _, Sum.inr _ :: _, [], a => a.elim
theorem v_arNil : SAr dNil [] := fun k σ us σ' e δ h c R r q => by
  cases e
  exact q [] h c (fun _ => none) r Ch.refl trivial fun n j z => by cases z
theorem v_arRf {i : Nat} {t : TDA} {as : List Ar} (b : SAr t as) : SAr (dCons (dVar i) t) (.rf i :: as) := fun k σ us σ' e δ h c R r q => by
  unfold evA at e
  split at e
  · rename_i w z
    obtain ⟨⟨us', σ1⟩, e1, e2⟩ := map_some e
    cases e2
    obtain ⟨d, e3, _⟩ := r.look i _ z
    exact ⟨d, e3, b (k + 1) σ us' _ e1 δ h c _ r fun ds h' c' g r' ch ao fr => q (d :: ds) h' c' g r' ch ⟨e3, ao⟩ fun n j z => by
      obtain ⟨a1, a2⟩ := fr n j z
      exact ⟨by omega, a2⟩⟩
  · cases e
theorem v_arEx {te : TDE} {x : XF} {t : TDA} {as : List Ar} (a : SF te x) (b : SAr t as) : SAr (dCons te t) (.ex x :: as) := fun k σ us σ' e δ h c R r q => by
  classical
  unfold evA at e
  obtain ⟨⟨w, σ1⟩, e1, e⟩ := bind_some e
  obtain ⟨⟨us', σ2⟩, e2, e3⟩ := map_some e
  cases e3
  refine a σ w σ1 e1 δ h c _ r fun d h1 c1 S r1 ch1 rp fr => ?_
  refine b (k + 1) σ1 us' _ e2 δ h1 c1 _ r1 fun ds h2 c2 g r2 ch2 ao fg => ?_
  have dj : ∀ n j, g n = some j → ¬ S n := fun n j z s => by
    obtain ⟨_, _, _, a4⟩ := fg n j z
    obtain ⟨b1, b2, _⟩ := fr n s
    exact a4 b1 b2
  refine q (d :: ds) h2 c2 (fun n => if S n then some k else g n) r2 (ch1.trans ch2) ⟨?_, ?_⟩ ?_
  · refine rp.move fun n o s en => ⟨(ch2.kp n o en (fr n s).2.1).1, ?_⟩
    show (if S n then some k else g n) = some k
    rw [if_pos s]
  · refine ao.move fun n o j hj en e4 => ⟨e4, ?_⟩
    show (if S n then some k else g n) = some j
    rw [if_neg (dj n j en)]
    exact en
  · intro n j z
    have z' : (if S n then some k else g n) = some j := z
    by_cases s : S n
    · rw [if_pos s] at z'
      cases z'
      obtain ⟨b1, b2, b3⟩ := fr n s
      exact ⟨Nat.le_refl _, Nat.lt_of_lt_of_le b1 ch2.ln, (ch2.kp n _ (List.getElem?_eq_getElem b1) b2).2, b3⟩
    · rw [if_neg s] at z'
      obtain ⟨a1, a2, a3, a4⟩ := fg n j z'
      refine ⟨by omega, a2, a3, fun hl y => ?_⟩
      exact a4 (Nat.lt_of_lt_of_le hl ch1.ln) (ch1.kp n _ (List.getElem?_eq_getElem hl) y).2
def resA : Us → VS → Option (List W)
  | [], _ => some []
  | Sum.inl i :: us, σ => match σ[i]? with
    | some (some w) => (resA us σ).map fun r => w :: r
    | _ => none
  | Sum.inr w :: us, σ => (resA us σ).map fun r => w :: r
def backA : Us → List W → VS → VS
  | Sum.inl i :: us, w :: ws, σ => backA us ws (σ.set i (some w))
  | Sum.inr _ :: us, _ :: ws, σ => backA us ws σ
  | _, _, σ => σ
def refsA : Us → List Nat
  | [] => []
  | Sum.inl i :: us => i :: refsA us
  | Sum.inr _ :: us => refsA us
def xFn (n : Nat) (F : VF) (as : List Ar) : XF := fun σ => (evA as σ).bind fun p => if (refsA p.1).Nodup ∧ p.1.length = n then (resA p.1 p.2).bind fun ws => (F ws).map fun z => (z.1, backA p.1 z.2 p.2) else none
theorem resA_ok {σ : VS} : ∀ {us : Us} {ws : List W}, resA us σ = some ws → ws.length = us.length ∧ ∀ (k : Nat) (w : W), ws[k]? = some w → (∃ i, us[k]? = some (Sum.inl i) ∧ σ[i]? = some (some w)) ∨ us[k]? = some (Sum.inr w)
  | [], ws, e => by
    cases e
    exact ⟨rfl, fun k w z => by cases z⟩
  | Sum.inl i :: us, ws, e => by
    unfold resA at e
    split at e
    · rename_i w0 z0
      obtain ⟨r, e1, e2⟩ := map_some e
      subst e2
      have ih := resA_ok e1
      refine ⟨by rw [List.length_cons, ih.1, List.length_cons], fun k w z => ?_⟩
      cases k with
      | zero =>
        cases z
        exact Or.inl ⟨i, rfl, z0⟩
      | succ k => exact ih.2 k w z
    · cases e
  | Sum.inr w0 :: us, ws, e => by
    unfold resA at e
    obtain ⟨r, e1, e2⟩ := map_some e
    subst e2
    have ih := resA_ok e1
    refine ⟨by rw [List.length_cons, ih.1, List.length_cons], fun k w z => ?_⟩
    cases k with
    | zero =>
      cases z
      exact Or.inr rfl
    | succ k => exact ih.2 k w z
theorem ArOk.at {h : OS} {δ : DS} {g : Co} : ∀ {us : Us} {ds : List D} {k0 k : Nat} {u : Nat ⊕ W}, ArOk h δ g k0 us ds → us[k]? = some u → ∃ d, ds[k]? = some d ∧ match u with
    | Sum.inl i => δ[i]? = some (some d)
    | Sum.inr w => Rp h (fun n => g n = some (k0 + k)) w d
  | [], [], _, _, _, _, e => by cases e
  | Sum.inl i :: us, d :: ds, k0, k, u, a, e => by
    cases k with
    | zero =>
      cases e
      exact ⟨d, rfl, a.1⟩
    | succ k =>
      have := ArOk.at (k := k) a.2 e
      rw [show k0 + 1 + k = k0 + (k + 1) by omega] at this
      exact this
  | Sum.inr w :: us, d :: ds, k0, k, u, a, e => by
    cases k with
    | zero =>
      cases e
      exact ⟨d, rfl, a.1⟩
    | succ k =>
      have := ArOk.at (k := k) a.2 e
      rw [show k0 + 1 + k = k0 + (k + 1) by omega] at this
      exact this
  | [], _ :: _, _, _, _, a, _ => a.elim
  | Sum.inl _ :: _, [], _, _, _, a, _ => a.elim
  | Sum.inr _ :: _, [], _, _, _, a, _ => a.elim
/-- at which place a name is handed on -/
def posA (i : Nat) : Us → Option Nat
  | [] => none
  | Sum.inl j :: us => if i = j then some 0 else (posA i us).map (· + 1)
  | Sum.inr _ :: us => (posA i us).map (· + 1)
theorem posA_at {i : Nat} : ∀ {us : Us} {k : Nat}, (refsA us).Nodup → us[k]? = some (Sum.inl i) → posA i us = some k
  | [], _, _, e => by cases e
  | Sum.inl j :: us, k, nd, e => by
    unfold posA
    unfold refsA at nd
    cases k with
    | zero =>
      cases e
      rw [if_pos rfl]
    | succ k =>
      have e' : us[k]? = some (Sum.inl i) := e
      have ih := posA_at (List.nodup_cons.mp nd).2 e'
      have hm : i ∈ refsA us := by
        clear ih nd e
        induction us generalizing k with
        | nil => cases e'
        | cons u us ih =>
          cases k with
          | zero =>
            cases e'
            exact List.mem_cons_self ..
          | succ k =>
            cases u with
            | inl _ => exact List.mem_cons_of_mem _ (ih k e')
            | inr _ => exact ih k e'
      rw [if_neg (by intro z; subst z; exact (List.nodup_cons.mp nd).1 hm), ih]
      rfl
  | Sum.inr w :: us, k, nd, e => by
    unfold posA
    unfold refsA at nd
    cases k with
    | zero => cases e
    | succ k =>
      rw [posA_at (k := k) nd e]
      rfl
theorem posA_some {i : Nat} : ∀ {us : Us} {k : Nat}, posA i us = some k → us[k]? = some (Sum.inl i)
  | [], _, e => by cases e
  | Sum.inl j :: us, k, e => by
    unfold posA at e
    split at e
    · rename_i z
      cases e
      subst z
      rfl
    · obtain ⟨k', e1, e2⟩ := map_some e
      subst e2
      exact posA_some (k := k') e1
  | Sum.inr w :: us, k, e => by
    unfold posA at e
    obtain ⟨k', e1, e2⟩ := map_some e
    subst e2
    exact posA_some (k := k') e1
theorem backA_len : ∀ (us : Us) (ws : List W) (σ : VS), (backA us ws σ).length = σ.length
  | [], _, _ => rfl
  | Sum.inl _ :: _, [], _ => rfl
  | Sum.inr _ :: _, [], _ => rfl
  | Sum.inl i :: us, w :: ws, σ => by
    show (backA us ws (σ.set i (some w))).length = _
    rw [backA_len us ws, List.length_set]
  | Sum.inr _ :: us, w :: ws, σ => backA_len us ws σ
theorem posA_none {i : Nat} : ∀ {us : Us}, posA i us = none → i ∉ refsA us
  | [], _ => List.not_mem_nil
  | Sum.inl j :: us, e => by
    unfold posA at e
    split at e
    · cases e
    · rename_i z
      intro m
      rcases List.mem_cons.mp m with y | m
      · exact z y
      · refine posA_none ?_ m
        cases e1 : posA i us with
        | none => rfl
        | some k =>
          rw [e1] at e
          cases e
  | Sum.inr w :: us, e => by
    unfold posA at e
    refine posA_none (us := us) ?_
    cases e1 : posA i us with
    | none => rfl
    | some k =>
      rw [e1] at e
      cases e
theorem backA_other {i : Nat} : ∀ {us : Us} {ws : List W} {σ : VS}, i ∉ refsA us → (backA us ws σ)[i]? = σ[i]?
  | [], _, _, _ => rfl
  | Sum.inl _ :: _, [], _, _ => rfl
  | Sum.inr _ :: _, [], _, _ => rfl
  | Sum.inl j :: us, w :: ws, σ, hn => by
    show (backA us ws (σ.set j (some w)))[i]? = _
    unfold refsA at hn
    rw [backA_other fun m => hn (List.mem_cons_of_mem _ m), List.getElem?_set_ne (by intro z; subst z; exact hn (List.mem_cons_self ..))]
  | Sum.inr _ :: us, w :: ws, σ, hn => backA_other (us := us) hn
theorem backA_at {i : Nat} : ∀ {us : Us} {ws : List W} {σ : VS} {k : Nat}, (refsA us).Nodup → us[k]? = some (Sum.inl i) → ∀ {w : W}, ws[k]? = some w → i < σ.length → (backA us ws σ)[i]? = some (some w)
  | [], _, _, _, _, e, _, _, _ => by cases e
  | Sum.inl _ :: _, [], _, _, _, _, _, e, _ => by cases e
  | Sum.inr _ :: _, [], _, _, _, _, _, e, _ => by cases e
  | Sum.inl j :: us, w0 :: ws, σ, k, nd, e, w, ew, hl => by
    show (backA us ws (σ.set j (some w0)))[i]? = _
    unfold refsA at nd
    cases k with
    | zero =>
      cases e
      cases ew
      rw [backA_other (List.nodup_cons.mp nd).1, List.getElem?_set_self hl]
    | succ k => exact backA_at (k := k) (List.nodup_cons.mp nd).2 e ew (by rw [List.length_set]; exact hl)
  | Sum.inr _ :: us, w0 :: ws, σ, k, nd, e, w, ew, hl => by
    cases k with
    | zero => cases e
    | succ k => exact backA_at (us := us) (k := k) nd e ew hl
/-- a call by its def's function -/
theorem call_v {t : TDA} {as : List Ar} {n : Nat} {F : VF} {σ σ' : VS} {w : W} (ha : SAr t as) (e : xFn n F as σ = some (w, σ')) {δ : DS} {h : OS} {c : Co} {R : DK} (r : RpS h σ δ c)
    (q : ∀ d h' c' S, RpS h' σ' δ c' → Ch h c h' c' → Rp h' S w d → Fr h c h' c' S → R d h') : t δ h fun ds h1 => spV n F ds h1 R NoX := by
  classical
  obtain ⟨⟨us, σ1⟩, e1, e⟩ := bind_some e
  dsimp only at e
  split at e
  · rename_i hnd
    obtain ⟨nd, hn⟩ := hnd
    obtain ⟨ws, e2, e⟩ := bind_some e
    obtain ⟨⟨w', ws'⟩, e3, e4⟩ := map_some e
    cases e4
    refine ha 0 σ us σ1 e1 δ h c _ r fun ds h1 c1 g r1 ch1 ao fg => ?_
    have res := resA_ok e2
    have gn : ∀ n i, c1 n = some i → g n = none := fun n i z => by
      cases y : g n with
      | none => rfl
      | some j =>
        have := (fg n j y).2.2.1
        rw [z] at this
        cases this
    let c0 : Co := fun n => match g n with
      | some k => some k
      | none => match c1 n with
        | some i => posA i us
        | none => none
    have c0g : ∀ n k, g n = some k → c0 n = some k := fun n k z => by
      show (match g n with | some k => some k | none => _) = some k
      rw [z]
    have c0c : ∀ n i, c1 n = some i → c0 n = posA i us := fun n i z => by
      show (match g n with | some k => some k | none => match c1 n with | some i => posA i us | none => none) = _
      rw [gn n i z, z]
    have c0n : ∀ n, g n = none → c1 n = none → c0 n = none := fun n z y => by
      show (match g n with | some k => some k | none => match c1 n with | some i => posA i us | none => none) = _
      rw [z, y]
    have rl : RpL h1 ws ds c0 := by
      refine ⟨by rw [res.1, ao.len], fun k w ek => ?_⟩
      rcases res.2 k w ek with ⟨i, e5, e6⟩ | e5
      · obtain ⟨d, e7, e8⟩ := ao.at e5
        have e8' : δ[i]? = some (some d) := e8
        obtain ⟨d2, e9, rp⟩ := r1.look i w e6
        rw [e8'] at e9
        cases e9
        refine ⟨d, e7, rp.move fun n o s en => ⟨en, ?_⟩⟩
        show c0 n = some k
        rw [c0c n i s]
        exact posA_at nd e5
      · obtain ⟨d, e7, e8⟩ := ao.at e5
        have e8' : Rp h1 (fun n => g n = some (0 + k)) w d := e8
        refine ⟨d, e7, e8'.move fun n o s en => ⟨en, ?_⟩⟩
        have s' : g n = some (0 + k) := s
        rw [Nat.zero_add] at s'
        exact c0g n k s'
    refine ⟨by rw [ao.len]; exact hn, ws, c0, _, ws', rl, e3, fun d h' c' S rl' ch' rp' fr' => ?_⟩
    let c2 : Co := fun m => match c' m with
      | some k => (match us[k]? with
        | some (Sum.inl i) => some i
        | _ => none)
      | none => if c0 m = none ∧ m < h1.length then c1 m else none
    have c2n : ∀ m, c' m = none → c2 m = if c0 m = none ∧ m < h1.length then c1 m else none := fun m z => by
      show (match c' m with | some k => _ | none => if c0 m = none ∧ m < h1.length then c1 m else none) = _
      rw [z]
    refine q d h' c2 S ⟨?_, ?_⟩ ⟨Nat.le_trans ch1.ln ch'.ln, ?_⟩ rp' ?_
    · rw [backA_len]
      exact r1.len
    · intro j wj ej
      cases hp : posA j us with
      | none =>
        rw [backA_other (posA_none hp)] at ej
        obtain ⟨dj, e5, rp⟩ := r1.look j wj ej
        refine ⟨dj, e5, rp.move fun n o s en => ?_⟩
        have s' : c1 n = some j := s
        have z0 : c0 n = none := by rw [c0c n j s', hp]
        obtain ⟨a1, a2⟩ := ch'.kp n o en z0
        refine ⟨a1, ?_⟩
        show c2 n = some j
        rw [c2n n a2, if_pos ⟨z0, look_lt en⟩]
        exact s'
      | some k =>
        have e5 := posA_some hp
        have hlt : j < σ1.length := by
          have := (List.getElem?_eq_some_iff.mp ej).1
          rw [backA_len] at this
          exact this
        have hk : k < ws'.length := by
          rw [rl'.len, ao.len]
          exact (List.getElem?_eq_some_iff.mp e5).1
        rw [backA_at nd e5 (List.getElem?_eq_getElem hk) hlt] at ej
        cases ej
        obtain ⟨d5, e6, rp⟩ := rl'.look k _ (List.getElem?_eq_getElem hk)
        obtain ⟨d7, e7, e8⟩ := ao.at e5
        have e8' : δ[j]? = some (some d7) := e8
        rw [e6] at e7
        cases e7
        refine ⟨d5, e8', rp.move fun n o s en => ⟨en, ?_⟩⟩
        have s' : c' n = some k := s
        show (match c' n with | some k => (match us[k]? with | some (Sum.inl i) => some i | _ => none) | none => _) = some j
        rw [s']
        show (match us[k]? with | some (Sum.inl i) => some i | _ => none) = some j
        rw [e5]
    · intro n o en z
      obtain ⟨a1, a2⟩ := ch1.kp n o en z
      have zg : g n = none := by
        cases y : g n with
        | none => rfl
        | some j => exact absurd z ((fg n j y).2.2.2 (look_lt en))
      have z0 := c0n n zg a2
      obtain ⟨b1, b2⟩ := ch'.kp n o a1 z0
      refine ⟨b1, ?_⟩
      rw [c2n n b2, if_pos ⟨z0, look_lt a1⟩]
      exact a2
    · intro n s
      obtain ⟨a1, a2, a3⟩ := fr' n s
      refine ⟨a1, ?_, fun hl z => ?_⟩
      · rw [c2n n a2, if_neg fun y => a3 y.2 y.1]
      · have en : h[n]? = some h[n] := List.getElem?_eq_getElem hl
        obtain ⟨b1, b2⟩ := ch1.kp n _ en z
        have zg : g n = none := by
          cases y : g n with
          | none => rfl
          | some j => exact absurd z ((fg n j y).2.2.2 hl)
        exact a3 (look_lt b1) (c0n n zg b2)
  · cases e
theorem v_call {t : TDA} {as : List Ar} {n : Nat} {F : VF} (ha : SAr t as) : SF (dFn (spV n F) t) (xFn n F as) := fun σ w σ' e δ h c R r q => call_v ha e r q
end FL
end
section
/-! The value layer: operations as functions. -/
namespace FL
open PySem PySem.Spec PyProof.Rows L2
open Classical

section
variable {h : OS} {x d : D}
theorem Vw.cases {P : D → Prop} (v : Vw h x d) (h1 : P x) (h2 : ∀ n o, h[n]? = some o → val o = x → P (.ref n)) : P d := by
  rcases v with rfl | ⟨n, o, rfl, e, ev⟩
  · exact h1
  · exact h2 n o e ev
theorem Vw.int {i : Int} (v : Vw h (.int i) d) : d = .int i := by
  rcases v with rfl | ⟨n, o, rfl, e, ev⟩
  · rfl
  · cases o <;> cases ev
theorem Vw.str {i : Str} (v : Vw h (.str i) d) : d = .str i := by
  rcases v with rfl | ⟨n, o, rfl, e, ev⟩
  · rfl
  · cases o <;> cases ev
theorem Vw.bl {i : Bool} (v : Vw h (.bl i) d) : d = .bl i := by
  rcases v with rfl | ⟨n, o, rfl, e, ev⟩
  · rfl
  · cases o <;> cases ev
theorem Vw.non (v : Vw h .non d) : d = .non := by
  rcases v with rfl | ⟨n, o, rfl, e, ev⟩
  · rfl
  · cases o <;> cases ev
theorem Vw.tup {ds : List D} (v : Vw h (.tup ds) d) : d = .tup ds := by
  rcases v with rfl | ⟨n, o, rfl, e, ev⟩
  · rfl
  · cases o <;> cases ev
theorem Vw.lsv {ds : List D} (v : Vw h (.lst ds) d) : lsv h d = some ds := by
  rcases v with rfl | ⟨n, o, rfl, e, ev⟩
  · rfl
  · cases o <;> cases ev
    show (match h[n]? with | some (.lst ds) => some ds | _ => none) = _
    rw [e]
theorem Vw.sqv {p : Bool × List D} (v : Vw h x d) (e0 : sqv [] x = some p) : sqv h d = some p := by
  rcases v with rfl | ⟨n, o, rfl, e, ev⟩
  · cases d <;> first | exact e0 | skip
    rename_i n
    cases e0
  · cases o <;> subst ev <;> first | cases e0 | skip
    show (match h[n]? with | some (.lst ds) => some (true, ds) | _ => none) = _
    rw [e]
theorem dcv_nil {qs : Qs} : dcv [] (.dct (qs.map (·.1)) (qs.map (·.2))) = some qs := dcv_val
theorem Vw.dcv {qs : Qs} (v : Vw h x d) (e0 : dcv [] x = some qs) : dcv h d = some qs := by
  rcases v with rfl | ⟨n, o, rfl, e, ev⟩
  · cases d <;> first | exact e0 | skip
    cases e0
  · cases o with
    | lst _ =>
      subst ev
      cases e0
    | ins _ _ =>
      subst ev
      cases e0
    | dct qs' =>
      subst ev
      rw [show val (.dct qs') = .dct (qs'.map (·.1)) (qs'.map (·.2)) from rfl, dcv_val] at e0
      cases e0
      exact dcv_ref e
    | fdc qs' =>
      subst ev
      rw [show val (.fdc qs') = .dct (qs'.map (·.1)) (qs'.map (·.2)) from rfl, dcv_val] at e0
      cases e0
      exact dcv_fz e
theorem Vw.toP {p : PyData} (v : Vw h x d) (e0 : toP x = some p) : toP (vw h d) = some p := by
  rcases v with rfl | ⟨n, o, rfl, e, ev⟩
  · cases d <;> first | exact e0 | cases e0
  · have : vw h (.ref n) = x := by
      subst ev
      unfold vw
      dsimp only
      rw [e]
      cases o <;> rfl
    rw [this]
    exact e0
end

def gAdd : G2 := fun x y => match x, y with
  | .int i, .int j => some (.int (i + j))
  | .str a, .str b => if a.length + b.length ≤ 16777216 then some (.str (a ++ b)) else none
  | .tup a, .tup b => if a.length + b.length ≤ 16777216 then some (.tup (a ++ b)) else none
  | .lst a, .lst b => if a.length + b.length ≤ 16777216 then some (.lst (a ++ b)) else none
  | _, _ => none
def gSub : G2 := fun x y => match x, y with
  | .int i, .int j => some (.int (i - j))
  | _, _ => none
noncomputable def gMul : G2 := fun x y => match x, y with
  | .int i, .int j => if MulOk i j then some (.int (i * j)) else none
  | _, _ => none
noncomputable def gDiv : G2 := fun x y => match x, y with
  | .int i, .int j => if CDivW i j then some (.int (i / j)) else none
  | _, _ => none
def gMod : G2 := fun x y => match x, y with
  | .int i, .int j => if 0 < j then some (.int (i % j)) else none
  | _, _ => none
noncomputable def gPow : G2 := fun x y => match x, y with
  | .int i, .int j => if CPow i j then some (.int (i ^ j.toNat)) else none
  | _, _ => none
def gNeg : G1 := fun x => match x with
  | .int i => some (.int (-i))
  | _ => none
def gMulS : G2 := fun x y => match x, y with
  | .str a, .int n => if -(2 ^ 20) ≤ n ∧ n ≤ 2 ^ 20 ∧ n.toNat * a.length ≤ 2 ^ 20 then some (.str (repS a n)) else none
  | _, _ => none
def gLt : G2 := fun x y => match x, y with
  | .int i, .int j => some (.bl (decide (i < j)))
  | .str a, .str b => some (.bl (decide (a.cps.toList < b.cps.toList)))
  | _, _ => none
def gLe : G2 := fun x y => match x, y with
  | .int i, .int j => some (.bl (decide (i ≤ j)))
  | _, _ => none
def gGt : G2 := fun x y => match x, y with
  | .int i, .int j => some (.bl (decide (j < i)))
  | _, _ => none
def gGe : G2 := fun x y => match x, y with
  | .int i, .int j => some (.bl (decide (j ≤ i)))
  | _, _ => none
def isNon : D → Bool
  | .non => true
  | _ => false
def gIsN : G2 := fun x y => match y with
  | .non => some (.bl (isNon x))
  | _ => none
def gNotN : G2 := fun x y => match y with
  | .non => some (.bl (!isNon x))
  | _ => none
noncomputable def gEq : G2 := fun x y => match x, y with
  | .int i, .int j => some (.bl (decide (i = j)))
  | .str a, .str b => some (.bl (decide (a = b)))
  | .bl a, .bl b => some (.bl (decide (a = b)))
  | x, y => match toP x, toP y with
    | some a, some b => if SeqAt.shaped a = true ∧ SeqAt.shaped b = true then some (.bl (PyData.eqv a b)) else none
    | _, _ => none
noncomputable def gNe : G2 := fun x y => match x, y with
  | .int i, .int j => some (.bl (!decide (i = j)))
  | .str a, .str b => some (.bl (!decide (a = b)))
  | .bl a, .bl b => some (.bl (!decide (a = b)))
  | x, y => match toP x, toP y with
    | some a, some b => if SeqAt.shaped a = true ∧ SeqAt.shaped b = true then some (.bl (!PyData.eqv a b)) else none
    | _, _ => none
def gIn (neg : Bool) : G2 := fun x y => match y with
  | .str z => (match x with
    | .str u => (match u.cps.toList with
      | [c] => some (.bl (if neg then !decide (c ∈ z.cps.toList) else decide (c ∈ z.cps.toList)))
      | _ => none)
    | _ => none)
  | y => match sqv [] y with
    | some (_, ds) => if flatD x = true ∧ ds.all flatD = true then some (.bl (if neg then !(ds.any fun z => eqF z x) else ds.any fun z => eqF z x)) else none
    | none => none
def gIx : G2 := fun x y => match y with
  | .int i => (match x with
    | .str z => if z.length ≤ 16777216 then (atI z.cps.toList i).map fun c => .str ⟨#[c]⟩ else none
    | x => match sqv [] x with
      | some (_, ds) => atI ds i
      | none => none)
  | _ => none
def gDGet : G2 := fun x y => match dcv [] x, keyD y with
  | some qs, some k => valD qs k
  | _, _ => none
def gDIn (b : Bool) : G2 := fun y x => match dcv [] x with
  | some qs => (match y with
    | .non => some (.bl (false == b))
    | y => (keyD y).map fun k => .bl ((valD qs k).isSome == b))
  | none => none
section
theorem b_add : Bi2 fAdd gAdd := by
  intro a a' b b' r h R e va vb q
  unfold gAdd at e
  split at e
  · cases e
    rw [va.int, vb.int]
    exact q
  · split at e
    · rename_i z
      cases e
      rw [va.str, vb.str]
      exact ⟨z, q⟩
    · cases e
  · split at e
    · rename_i z
      cases e
      rw [va.tup, vb.tup]
      exact ⟨z, q⟩
    · cases e
  · split at e
    · rename_i z
      cases e
      have l1 := va.lsv
      have l2 := vb.lsv
      unfold fAdd
      split
      · cases l1
      · cases l1
      · cases l1
      · exact ⟨_, _, l1, l2, z, q⟩
    · cases e
  · cases e
theorem b_sub : Bi2 fSub gSub := by
  intro a a' b b' r h R e va vb q
  unfold gSub at e
  split at e
  · cases e
    rw [va.int, vb.int]
    exact q
  · cases e
theorem b_mul : Bi2 fMul gMul := by
  intro a a' b b' r h R e va vb q
  unfold gMul at e
  split at e
  · split at e
    · rename_i z
      cases e
      rw [va.int, vb.int]
      exact ⟨z, q⟩
    · cases e
  · cases e
theorem b_div : Bi2 fDiv gDiv := by
  intro a a' b b' r h R e va vb q
  unfold gDiv at e
  split at e
  · split at e
    · rename_i z
      cases e
      rw [va.int, vb.int]
      exact ⟨z, q⟩
    · cases e
  · cases e
theorem b_mod : Bi2 fMod gMod := by
  intro a a' b b' r h R e va vb q
  unfold gMod at e
  split at e
  · split at e
    · rename_i z
      cases e
      rw [va.int, vb.int]
      exact ⟨z, q⟩
    · cases e
  · cases e
theorem b_pow : Bi2 fPow gPow := by
  intro a a' b b' r h R e va vb q
  unfold gPow at e
  split at e
  · split at e
    · rename_i z
      cases e
      rw [va.int, vb.int]
      exact ⟨z, q⟩
    · cases e
  · cases e
theorem b_mulS : Bi2 fMulS gMulS := by
  intro a a' b b' r h R e va vb q
  unfold gMulS at e
  split at e
  · split at e
    · rename_i z
      cases e
      rw [va.str, vb.int]
      exact ⟨_, _, rfl, rfl, z.1, z.2.1, z.2.2, q⟩
    · cases e
  · cases e
theorem b_neg : Un1 fNeg gNeg := by
  intro a a' r h R e va q
  unfold gNeg at e
  split at e
  · cases e
    rw [va.int]
    exact q
  · cases e
theorem b_lt : Bi2 fLt gLt := by
  intro a a' b b' r h R e va vb q
  unfold gLt at e
  split at e
  · cases e
    rw [va.int, vb.int]
    exact q
  · cases e
    rw [va.str, vb.str]
    exact q
  · cases e
theorem b_le : Bi2 fLe gLe := by
  intro a a' b b' r h R e va vb q
  unfold gLe at e
  split at e
  · cases e
    rw [va.int, vb.int]
    exact q
  · cases e
theorem b_gt : Bi2 fGt gGt := by
  intro a a' b b' r h R e va vb q
  unfold gGt at e
  split at e
  · cases e
    rw [va.int, vb.int]
    exact q
  · cases e
theorem b_ge : Bi2 fGe gGe := by
  intro a a' b b' r h R e va vb q
  unfold gGe at e
  split at e
  · cases e
    rw [va.int, vb.int]
    exact q
  · cases e
theorem b_isN : Bi2 fIsN gIsN := by
  intro a a' b b' r h R e va vb q
  unfold gIsN at e
  split at e
  · cases e
    rw [vb.non]
    unfold fIsN
    rcases va with rfl | ⟨n, o, rfl, e1, ev⟩
    · cases a' <;> exact q
    · cases o <;> subst ev <;> exact q
  · cases e
theorem b_notN : Bi2 fNotN gNotN := by
  intro a a' b b' r h R e va vb q
  unfold gNotN at e
  split at e
  · cases e
    rw [vb.non]
    unfold fNotN
    rcases va with rfl | ⟨n, o, rfl, e1, ev⟩
    · cases a' <;> exact q
    · cases o <;> subst ev <;> exact q
  · cases e
theorem b_eq : Bi2 fEq gEq := by
  intro a a' b b' r h R e va vb q
  unfold gEq at e
  split at e
  · cases e
    rw [va.int, vb.int]
    exact q
  · cases e
    rw [va.str, vb.str]
    exact q
  · cases e
    rw [va.bl, vb.bl]
    exact q
  · rename_i n1 n2 n3
    split at e
    · rename_i p1 p2 e1 e2
      split at e
      · rename_i z
        cases e
        have g1 := va.toP e1
        have g2 := vb.toP e2
        have key : ∃ a b, toP (vw h a') = some a ∧ toP (vw h b') = some b ∧ SeqAt.shaped a = true ∧ SeqAt.shaped b = true ∧ R (.bl (PyData.eqv a b)) h := ⟨_, _, g1, g2, z.1, z.2, q⟩
        unfold fEq
        split
        · rcases va with rfl | ⟨n, o, y, _⟩
          · rcases vb with rfl | ⟨n, o, y, _⟩
            · exact (n1 _ _ rfl rfl).elim
            · cases y
          · cases y
        · rcases va with rfl | ⟨n, o, y, _⟩
          · rcases vb with rfl | ⟨n, o, y, _⟩
            · exact (n2 _ _ rfl rfl).elim
            · cases y
          · cases y
        · rcases va with rfl | ⟨n, o, y, _⟩
          · rcases vb with rfl | ⟨n, o, y, _⟩
            · exact (n3 _ _ rfl rfl).elim
            · cases y
          · cases y
        · exact key
      · cases e
    · cases e
theorem b_ne : Bi2 fNe gNe := by
  intro a a' b b' r h R e va vb q
  unfold gNe at e
  split at e
  · cases e
    rw [va.int, vb.int]
    exact q
  · cases e
    rw [va.str, vb.str]
    exact q
  · cases e
    rw [va.bl, vb.bl]
    exact q
  · rename_i n1 n2 n3
    split at e
    · rename_i p1 p2 e1 e2
      split at e
      · rename_i z
        cases e
        have g1 := va.toP e1
        have g2 := vb.toP e2
        have key : ∃ a b, toP (vw h a') = some a ∧ toP (vw h b') = some b ∧ SeqAt.shaped a = true ∧ SeqAt.shaped b = true ∧ R (.bl (!PyData.eqv a b)) h := ⟨_, _, g1, g2, z.1, z.2, q⟩
        unfold fNe
        split
        · rcases va with rfl | ⟨n, o, y, _⟩
          · rcases vb with rfl | ⟨n, o, y, _⟩
            · exact (n1 _ _ rfl rfl).elim
            · cases y
          · cases y
        · rcases va with rfl | ⟨n, o, y, _⟩
          · rcases vb with rfl | ⟨n, o, y, _⟩
            · exact (n2 _ _ rfl rfl).elim
            · cases y
          · cases y
        · rcases va with rfl | ⟨n, o, y, _⟩
          · rcases vb with rfl | ⟨n, o, y, _⟩
            · exact (n3 _ _ rfl rfl).elim
            · cases y
          · cases y
        · exact key
      · cases e
    · cases e
theorem b_in {neg : Bool} : Bi2 (fIn neg) (gIn neg) := by
  intro a a' b b' r h R e va vb q
  unfold gIn at e
  split at e
  · split at e
    · rename_i u
      split at e
      · rename_i c hc
        cases e
        rw [va.str, vb.str]
        refine ⟨c, ?_, q⟩
        obtain ⟨⟨l⟩⟩ := u
        have : l = [c] := hc
        rw [this]
      · cases e
    · cases e
  · rename_i nb
    split at e
    · rename_i k ds e1
      split at e
      · rename_i z
        cases e
        have g1 := vb.sqv e1
        have ea : a' = a := by
          rcases va with rfl | ⟨n, o, rfl, _, ev⟩
          · rfl
          · have := z.1
            cases o <;> subst ev <;> cases this
        subst ea
        unfold fIn
        split
        · cases g1
        · exact ⟨_, _, g1, z.1, z.2, q⟩
      · cases e
    · cases e
theorem b_ix : Bi2 fIx gIx := by
  intro a a' b b' r h R e va vb q
  unfold gIx at e
  split at e
  · rename_i i
    rw [vb.int]
    refine ⟨i, rfl, ?_⟩
    split at e
    · split at e
      · rename_i z
        obtain ⟨c, e1, e2⟩ := map_some e
        subst e2
        rw [va.str]
        exact ⟨z, c, e1, q⟩
      · cases e
    · split at e
      · rename_i k ds e1
        have g1 := va.sqv e1
        split
        · cases g1
        · exact ⟨_, _, _, g1, e, q⟩
      · cases e
  · cases e
theorem keyD_vw {h : OS} {x d : D} {k : Key} (v : Vw h x d) (e : keyD x = some k) : d = x := by
  rcases v with rfl | ⟨n, o, rfl, _, ev⟩
  · rfl
  · cases o <;> subst ev <;> cases e
theorem b_dget : Bi2 fDGet gDGet := by
  intro a a' b b' r h R e va vb q
  unfold gDGet at e
  split at e
  · rename_i qs k e1 e2
    have := keyD_vw vb e2
    subst this
    exact ⟨qs, k, r, va.dcv e1, e2, e, q⟩
  · cases e
theorem b_din {b : Bool} : Bi2 (fDIn b) (gDIn b) := by
  intro y y' x x' r h R e vy vx q
  unfold gDIn at e
  split at e
  · rename_i qs e1
    split at e
    · cases e
      rw [vy.non]
      exact ⟨qs, vx.dcv e1, Or.inr ⟨rfl, q⟩⟩
    · obtain ⟨k, e2, e3⟩ := map_some e
      subst e3
      have := keyD_vw vy e2
      subst this
      exact ⟨qs, vx.dcv e1, Or.inl ⟨k, e2, q⟩⟩
  · cases e
end

/-! ### what Python brings, of one value or two -/
def Ba1 (f : FA) (g : G1) : Prop := ∀ a a' r h (R : DK), g a = some r → Vw h a a' → R r h → f [a'] h R
def Ba2 (f : FA) (g : G2) : Prop := ∀ a b r h (R : DK), g a b = some r → R r h → f [a, b] h R
def xB2 (g : G2) (xa xb : XE) : XE := xOp g xa xb
theorem v_ba1 {f : FA} {g : G1} {ta : TDE} {xa : XE} (o : Ba1 f g) (ha : SV ta xa) : SE (dCB f (dCons ta dNil)) (xUn g xa) := fun σ d σ' e δ h c R r q => by
  obtain ⟨⟨a, σ1⟩, e1, e⟩ := bind_some e
  obtain ⟨z, e3, e4⟩ := map_some e
  cases e4
  exact ha σ a _ e1 δ h c _ r fun a' h1 c1 r1 ch1 va => o _ _ _ h1 R e3 va (q h1 c1 r1 ch1)
theorem v_ba2 {f : FA} {g : G2} {ta tb : TDE} {xa xb : XE} (o : Ba2 f g) (ha : SE ta xa) (hb : SE tb xb) : SE (dCB f (dCons ta (dCons tb dNil))) (xOp g xa xb) := fun σ d σ' e δ h c R r q => by
  obtain ⟨⟨a, σ1⟩, e1, e⟩ := bind_some e
  obtain ⟨⟨b, σ2⟩, e2, e⟩ := bind_some e
  obtain ⟨z, e3, e4⟩ := map_some e
  cases e4
  exact ha σ a σ1 e1 δ h c _ r fun h1 c1 r1 ch1 => hb σ1 b _ e2 δ h1 c1 _ r1 fun h2 c2 r2 ch2 => o _ _ _ h2 R e3 (q h2 c2 r2 (ch1.trans ch2))
def gLen : G1 := fun x => match x with
  | .str z => if z.length ≤ 16777216 then some (.int z.length) else none
  | x => match sqv [] x with
    | some (_, es) => some (.int es.length)
    | none => none
theorem ba_len : Ba1 fLen gLen := by
  intro a a' r h R e va q
  unfold gLen at e
  split at e
  · split at e
    · rename_i z
      cases e
      rw [va.str]
      exact ⟨_, rfl, z, q⟩
    · cases e
  · split at e
    · rename_i k es e1
      cases e
      have g1 := va.sqv e1
      refine ⟨_, rfl, ?_⟩
      split
      · cases g1
      · exact ⟨_, _, g1, q⟩
    · cases e
def gMin : G2 := fun x y => match x, y with
  | .int i, .int j => some (.int (if j < i then j else i))
  | _, _ => none
def gMax : G2 := fun x y => match x, y with
  | .int i, .int j => some (.int (if j > i then j else i))
  | _, _ => none
theorem ba_min : Ba2 fMin2 gMin := by
  intro a b r h R e q
  unfold gMin at e
  split at e
  · cases e
    exact ⟨_, _, rfl, q⟩
  · cases e
theorem ba_max : Ba2 fMax2 gMax := by
  intro a b r h R e q
  unfold gMax at e
  split at e
  · cases e
    exact ⟨_, _, rfl, q⟩
  · cases e
def gInt : G1 := fun x => match x with
  | .int i => some (.int i)
  | .bl b => some (.int (if b then 1 else 0))
  | _ => none
theorem ba_int : Ba1 fInt gInt := by
  intro a a' r h R e va q
  unfold gInt at e
  split at e
  · cases e
    rw [va.int]
    exact ⟨_, rfl, q⟩
  · cases e
    rw [va.bl]
    exact ⟨_, rfl, q⟩
  · cases e
def gBool : G1 := fun x => match x with
  | .int i => some (.bl (i != 0))
  | .bl b => some (.bl b)
  | _ => none
theorem ba_bool : Ba1 fBool gBool := by
  intro a a' r h R e va q
  unfold gBool at e
  split at e
  · cases e
    rw [va.int]
    exact ⟨_, rfl, q⟩
  · cases e
    rw [va.bl]
    exact ⟨_, rfl, q⟩
  · cases e
def gStr : G1 := fun x => match x with
  | .int i => if i.natAbs.log2 < 1920 then some (.str (toString i)) else none
  | _ => none
theorem ba_str : Ba1 fStr gStr := by
  intro a a' r h R e va q
  unfold gStr at e
  split at e
  · split at e
    · rename_i z
      cases e
      rw [va.int]
      exact ⟨_, rfl, z, q⟩
    · cases e
  · cases e
def gTuple : G1 := fun x => match sqv [] x with
  | some (_, es) => some (.tup es)
  | none => none
theorem ba_tuple : Ba1 fTuple gTuple := by
  intro a a' r h R e va q
  unfold gTuple at e
  split at e
  · rename_i k es e1
    cases e
    exact ⟨_, k, es, rfl, va.sqv e1, q⟩
  · cases e
def gList : G1 := fun x => match sqv [] x with
  | some (_, es) => some (.lst es)
  | none => none
theorem ba_list : Ba1 fList gList := by
  intro a a' r h R e va q
  unfold gList at e
  split at e
  · rename_i k es e1
    cases e
    exact ⟨_, k, es, rfl, va.sqv e1, q⟩
  · cases e
def asInts : List D → Option (List Int)
  | [] => some []
  | .int i :: r => (asInts r).map fun l => i :: l
  | _ => none
theorem asInts_ok : ∀ {ds : List D} {ns : List Int}, asInts ds = some ns → ds = ns.map D.int
  | [], _, e => by
    cases e
    rfl
  | d :: r, ns, e => by
    cases d <;> first | cases e | skip
    unfold asInts at e
    obtain ⟨l, e1, e2⟩ := map_some e
    subst e2
    rw [asInts_ok e1]
    rfl
def asBls : List D → Option (List Bool)
  | [] => some []
  | .bl i :: r => (asBls r).map fun l => i :: l
  | _ => none
theorem asBls_ok : ∀ {ds : List D} {ns : List Bool}, asBls ds = some ns → ds = ns.map D.bl
  | [], _, e => by
    cases e
    rfl
  | d :: r, ns, e => by
    cases d <;> first | cases e | skip
    unfold asBls at e
    obtain ⟨l, e1, e2⟩ := map_some e
    subst e2
    rw [asBls_ok e1]
    rfl
def asStrs : List D → Option (List Str)
  | [] => some []
  | .str i :: r => (asStrs r).map fun l => i :: l
  | _ => none
theorem asStrs_ok : ∀ {ds : List D} {ns : List Str}, asStrs ds = some ns → ds = ns.map D.str
  | [], _, e => by
    cases e
    rfl
  | d :: r, ns, e => by
    cases d <;> first | cases e | skip
    unfold asStrs at e
    obtain ⟨l, e1, e2⟩ := map_some e
    subst e2
    rw [asStrs_ok e1]
    rfl
theorem asInts_of : ∀ ns : List Int, asInts (ns.map D.int) = some ns
  | [] => rfl
  | n :: ns => by
    show (asInts (ns.map D.int)).map _ = _
    rw [asInts_of ns]
    rfl
theorem asBls_of : ∀ ns : List Bool, asBls (ns.map D.bl) = some ns
  | [] => rfl
  | n :: ns => by
    show (asBls (ns.map D.bl)).map _ = _
    rw [asBls_of ns]
    rfl
theorem asStrs_of : ∀ ns : List Str, asStrs (ns.map D.str) = some ns
  | [] => rfl
  | n :: ns => by
    show (asStrs (ns.map D.str)).map _ = _
    rw [asStrs_of ns]
    rfl
def gSum : G1 := fun x => match sqv [] x with
  | some (true, es) => (asInts es).map fun ns => .int ns.sum
  | _ => none
def gAll : G1 := fun x => match sqv [] x with
  | some (true, es) => (asBls es).map fun ns => .bl (ns.all id)
  | _ => none
def gAny : G1 := fun x => match sqv [] x with
  | some (true, es) => (asBls es).map fun ns => .bl (ns.any id)
  | _ => none
theorem ba_sum : Ba1 fSum gSum := by
  intro a a' r h R e va q
  unfold gSum at e
  split at e
  · rename_i es e1
    obtain ⟨ns, e2, e3⟩ := map_some e
    subst e3
    rw [asInts_ok e2] at e1
    exact ⟨_, ns, rfl, va.sqv e1, q⟩
  · cases e
theorem ba_all : Ba1 fAll gAll := by
  intro a a' r h R e va q
  unfold gAll at e
  split at e
  · rename_i es e1
    obtain ⟨ns, e2, e3⟩ := map_some e
    subst e3
    rw [asBls_ok e2] at e1
    exact ⟨_, ns, rfl, va.sqv e1, q⟩
  · cases e
theorem ba_any : Ba1 fAny gAny := by
  intro a a' r h R e va q
  unfold gAny at e
  split at e
  · rename_i es e1
    obtain ⟨ns, e2, e3⟩ := map_some e
    subst e3
    rw [asBls_ok e2] at e1
    exact ⟨_, ns, rfl, va.sqv e1, q⟩
  · cases e
noncomputable def gRepr : G1 := fun x => match toP x with
  | some p => if ShowP p then some (.str p.shown) else none
  | none => none
theorem ba_repr : Ba1 fRepr gRepr := by
  intro a a' r h R e va q
  unfold gRepr at e
  split at e
  · rename_i p e1
    split at e
    · rename_i z
      cases e
      exact ⟨_, p, rfl, va.toP e1, z, q⟩
    · cases e
  · cases e
def keyOf : D → Option (Key × D)
  | .tup [k, d] => (keyD k).map fun k => (k, d)
  | _ => none
def asPairs : List D → Option Qs
  | [] => some []
  | d :: r => (keyOf d).bind fun p => (asPairs r).map fun l => p :: l
theorem asPairs_ok : ∀ {ds : List D} {qs : Qs}, asPairs ds = some qs → ds = qs.map pairD
  | [], _, e => by
    cases e
    rfl
  | d :: r, ns, e => by
    unfold asPairs at e
    obtain ⟨p, e0, e⟩ := bind_some e
    obtain ⟨l, e1, e2⟩ := map_some e
    subst e2
    rw [asPairs_ok e1]
    unfold keyOf at e0
    split at e0
    · rename_i k d
      obtain ⟨k', e3, e4⟩ := map_some e0
      subst e4
      cases k <;> simp only [keyD] at e3 <;> cases e3 <;> rfl
    · cases e0
theorem asPairs_of : ∀ qs : Qs, asPairs (qs.map pairD) = some qs
  | [] => rfl
  | (k, d) :: qs => by
    show (keyOf (pairD (k, d))).bind _ = _
    rw [show keyOf (pairD (k, d)) = some (k, d) by cases k <;> rfl]
    show (asPairs (qs.map pairD)).map _ = _
    rw [asPairs_of qs]
    rfl
def dctD (qs : Qs) : D := .dct (qs.map (·.1)) (qs.map (·.2))
def gDict : G1 := fun x => match sqv [] x with
  | some (true, es) => (asPairs es).map fun qs => dctD (mergeQ [] qs)
  | _ => none
theorem ba_dict : Ba1 fDict gDict := by
  intro a a' r h R e va q
  unfold gDict at e
  split at e
  · rename_i es e1
    obtain ⟨ns, e2, e3⟩ := map_some e
    subst e3
    rw [asPairs_ok e2] at e1
    exact ⟨_, ns, rfl, va.sqv e1, q⟩
  · cases e
/-- ''.join -/
def gJoin : G2 := fun x y => match x, sqv [] y with
  | .str a, some (_, es) => (match asStrs es with
    | some ss => if (ss.map (·.length)).sum + ss.length * a.length ≤ 16777216 then some (.str (Txt.join a ss)) else none
    | none => none)
  | _, _ => none
theorem v_join {a : Str} {tb : TDE} {xb : XE} (hb : SV tb xb) : SE (dBM "str" mJoin (dC (.str a)) (dCons tb dNil)) (xOp gJoin (xC (.str a)) xb) := fun σ d σ' e δ h c R r q => by
  obtain ⟨⟨a', σ1⟩, e1, e⟩ := bind_some e
  cases e1
  obtain ⟨⟨b, σ2⟩, e2, e⟩ := bind_some e
  obtain ⟨z, e3, e4⟩ := map_some e
  cases e4
  refine ⟨rfl, hb σ b _ e2 δ h c _ r fun b' h2 c2 r2 ch2 vb => ?_⟩
  unfold gJoin at e3
  split at e3
  · rename_i k es y1 y2
    split at e3
    · rename_i ss e5
      split at e3
      · rename_i hl
        cases e3
        cases y1
        rw [asStrs_ok e5] at y2
        exact ⟨_, b', k, ss, rfl, rfl, vb.sqv y2, hl, q h2 c2 r2 ch2⟩
      · cases e3
    · cases e3
  · cases e3
/-- d.get(k, x) -/
def gGet : D → D → D → Option D := fun x y z => match dcv [] x with
  | some qs => (match y with
    | .non => some z
    | y => (keyD y).map fun k => (valD qs k).getD z)
  | none => none
def xGet (i : Nat) (xy xz : XE) : XE := fun σ => match σ[i]? with
  | some (some w0) => w0.vo.bind fun x0 => if (dcv [] x0).isSome = true then (xy σ).bind fun p => (xz p.2).bind fun q => match q.2[i]? with
    | some (some w) => w.vo.bind fun x => (gGet x p.1 q.1).map fun r => (r, q.2)
    | _ => none else none
  | _ => none
theorem v_get {i : Nat} {ty tz : TDE} {xy xz : XE} (hy : SE ty xy) (hz : SE tz xz) : SE (dDGet2 (dVar i) ty tz) (xGet i xy xz) := fun σ d σ' e δ h c R r q => by
  unfold xGet at e
  split at e
  · rename_i w0 z0
    obtain ⟨x0, ex0, e⟩ := bind_some e
    split at e
    · rename_i hq
      obtain ⟨d0, e0, rp0⟩ := r.look i _ z0
      obtain ⟨⟨y, σ1⟩, e1, e⟩ := bind_some e
      obtain ⟨⟨z, σ2⟩, e2, e⟩ := bind_some e
      dsimp only at e
      split at e
      · rename_i w zw
        obtain ⟨x, ex, e⟩ := bind_some e
        obtain ⟨v, e3, e4⟩ := map_some e
        cases e4
        obtain ⟨qs0, eq0⟩ := Option.isSome_iff_exists.mp hq
        refine ⟨d0, e0, ⟨qs0, (rp0.vw ex0).dcv eq0⟩, hy σ y σ1 e1 δ h c _ r fun h1 c1 r1 ch1 => hz σ1 z _ e2 δ h1 c1 _ r1 fun h2 c2 r2 ch2 => ?_⟩
        obtain ⟨d1, e5, rp⟩ := r2.look i _ zw
        rw [e0] at e5
        cases e5
        unfold gGet at e3
        split at e3
        · rename_i qs eq
          refine ⟨qs, (rp.vw ex).dcv eq, ?_⟩
          split at e3
          · cases e3
            exact Or.inr ⟨rfl, q h2 c2 r2 (ch1.trans ch2)⟩
          · obtain ⟨k, e6, e7⟩ := map_some e3
            subst e7
            exact Or.inl ⟨k, e6, q h2 c2 r2 (ch1.trans ch2)⟩
        · cases e3
      · cases e
    · cases e
  · cases e
/-! ### slices -/
abbrev XO := VS → Option (Option Int × VS)
def SO (t : TDO) (x : XO) : Prop := ∀ σ o σ', x σ = some (o, σ') → ∀ δ h c (R : Option Int → OS → Prop), RpS h σ δ c → (∀ h' c', RpS h' σ' δ c' → Ch h c h' c' → R o h') → t δ h R
def xNo : XO := fun σ => some (none, σ)
def xPt (x : XE) : XO := fun σ => (x σ).bind fun p => match p.1 with
  | .int i => some (some i, p.2)
  | _ => none
theorem v_no : SO dNoPart xNo := fun σ d σ' e δ h c R r q => by
  cases e
  exact q h c r Ch.refl
theorem v_pt {te : TDE} {x : XE} (a : SE te x) : SO (dPart te) (xPt x) := fun σ d σ' e δ h c R r q => by
  obtain ⟨⟨v, σ1⟩, e1, e⟩ := bind_some e
  dsimp only at e
  split at e
  · rename_i i
    cases e
    exact a σ _ _ e1 δ h c _ r fun h1 c1 r1 ch1 => ⟨i, rfl, q h1 c1 r1 ch1⟩
  · cases e
def gCut : D → Option Int → Option Int → Option D := fun x lo hi => match x with
  | .str z => if z.length ≤ 16777216 then some (.str (cutS z lo hi)) else none
  | x => match sqv [] x with
    | some (k, ds) => some (if k = true then .lst (cutD ds lo hi) else .tup (cutD ds lo hi))
    | none => none
def xSl (xa : XE) (xl xh : XO) : XE := fun σ => (xa σ).bind fun p => (xl p.2).bind fun q => (xh q.2).bind fun s => (gCut p.1 q.1 s.1).map fun r => (r, s.2)
def xSlP (i : Nat) (xl xh : XO) : XE := fun σ => match σ[i]? with
  | some (some _) => (xl σ).bind fun q => (xh q.2).bind fun s => match s.2[i]? with
    | some (some w) => w.vo.bind fun x => (gCut x q.1 s.1).map fun r => (r, s.2)
    | _ => none
  | _ => none
theorem cut_ok {a a' r : D} {h : OS} {lo hi : Option Int} {R : DK} (e : gCut a lo hi = some r) (va : Vw h a a') (q : R r h) : fCut a' lo hi h R := by
  unfold gCut at e
  split at e
  · split at e
    · rename_i z
      cases e
      rw [va.str]
      exact ⟨z, q⟩
    · cases e
  · split at e
    · rename_i k ds e1
      cases e
      have g1 := va.sqv e1
      unfold fCut
      split
      · cases g1
      · exact ⟨_, _, g1, q⟩
    · cases e
theorem v_sl {te : TDE} {xe : XE} {tl th : TDO} {xl xh : XO} (a : SE te xe) (b : SO tl xl) (d : SO th xh) : SE (dSl fCut te tl th) (xSl xe xl xh) := fun σ v σ' e δ h c R r q => by
  obtain ⟨⟨v1, σ1⟩, e1, e⟩ := bind_some e
  obtain ⟨⟨v2, σ2⟩, e2, e⟩ := bind_some e
  obtain ⟨⟨v3, σ3⟩, e3, e⟩ := bind_some e
  obtain ⟨z, e4, e5⟩ := map_some e
  cases e5
  exact a σ v1 σ1 e1 δ h c _ r fun h1 c1 r1 ch1 => b σ1 v2 σ2 e2 δ h1 c1 _ r1 fun h2 c2 r2 ch2 => d σ2 v3 _ e3 δ h2 c2 _ r2 fun h3 c3 r3 ch3 => cut_ok e4 Vw.refl (q h3 c3 r3 ((ch1.trans ch2).trans ch3))
theorem v_slP {i : Nat} {tl th : TDO} {xl xh : XO} (b : SO tl xl) (d : SO th xh) : SE (dSl fCut (dVar i) tl th) (xSlP i xl xh) := fun σ v σ' e δ h c R r q => by
  unfold xSlP at e
  split at e
  · rename_i w0 z0
    obtain ⟨d0, e0, _⟩ := r.look i _ z0
    obtain ⟨⟨v2, σ2⟩, e2, e⟩ := bind_some e
    obtain ⟨⟨v3, σ3⟩, e3, e⟩ := bind_some e
    dsimp only at e
    split at e
    · rename_i w zw
      obtain ⟨x, ex, e⟩ := bind_some e
      obtain ⟨z, e4, e5⟩ := map_some e
      cases e5
      refine ⟨d0, e0, b σ v2 σ2 e2 δ h c _ r fun h2 c2 r2 ch2 => d σ2 v3 _ e3 δ h2 c2 _ r2 fun h3 c3 r3 ch3 => ?_⟩
      obtain ⟨d1, e6, rp⟩ := r3.look i _ zw
      rw [e0] at e6
      cases e6
      exact cut_ok e4 (rp.vw ex) (q h3 c3 r3 (ch2.trans ch3))
    · cases e
  · cases e
/-- .. a new list -/
def xSlN (x : XE) : XF := fun σ => (x σ).bind fun p => match p.1 with
  | .lst ds => some (.l ds, p.2)
  | _ => none
theorem v_slN {i : Nat} {tl th : TDO} {xl xh : XO} (b : SO tl xl) (d : SO th xh) : SF (dSl fCutN (dVar i) tl th) (xSlN (xSlP i xl xh)) := fun σ v σ' e δ h c R r q => by
  obtain ⟨⟨v0, σ0⟩, ee, e⟩ := bind_some e
  dsimp only at e
  split at e
  · rename_i ds0
    cases e
    unfold xSlP at ee
    split at ee
    · rename_i w0 z0
      obtain ⟨d0, e0, _⟩ := r.look i _ z0
      obtain ⟨⟨v2, σ2⟩, e2, ee⟩ := bind_some ee
      obtain ⟨⟨v3, σ3⟩, e3, ee⟩ := bind_some ee
      dsimp only at ee
      split at ee
      · rename_i w zw
        obtain ⟨x, ex, ee⟩ := bind_some ee
        obtain ⟨z, e4, e5⟩ := map_some ee
        cases e5
        refine ⟨d0, e0, b σ v2 σ2 e2 δ h c _ r fun h2 c2 r2 ch2 => d σ2 v3 _ e3 δ h2 c2 _ r2 fun h3 c3 r3 ch3 => ?_⟩
        obtain ⟨d1, e6, rp⟩ := r3.look i _ zw
        rw [e0] at e6
        cases e6
        unfold gCut at e4
        split at e4
        · split at e4 <;> cases e4
        · split at e4
          · rename_i k ds e7
            cases k with
            | false => cases e4
            | true =>
              have e4' : ds0 = cutD ds v2 v3 := by
                injection e4 with e4
                injection e4 with e4
                exact e4.symm
              subst e4'
              exact ⟨ds, (rp.vw ex).sqv e7, push_f (ch2.trans ch3) r3 rfl q⟩
          · cases e4
      · cases ee
    · cases ee
  · cases e
end FL
end
section
/-! The value layer: comprehensions; what they make is a new thing. -/
namespace FL
open PySem PySem.Spec PyProof.Rows L2

def dLcW (si : TDI) (c : CTg) (tt : TDT) (te : TDE) (vs : List Nat) : TDE := fun δ h R => si δ h fun S h1 => ∃ Pv : Nat → List D → OS → Prop, Pv 0 [] (h1 ++ [.lst []]) ∧ (∀ i acc h, i ≤ S.items.length → Pv i acc h → h[h1.length]? = some (.lst acc) ∧ acc.length ≤ i ∧ S.G h) ∧ S.items.length < sizeLine ∧
  (∀ (i : Nat) d acc h, S.items[i]? = some d → Pv i acc h → c.put d (wipeD δ vs) fun δ2 => tt δ2 h fun b h3 =>
    if b = true then te δ2 h3 fun y h4 => h4[h1.length]? = some (.lst acc) ∧ Pv (i + 1) (acc ++ [y]) (h4.set h1.length (.lst (acc ++ [y]))) else Pv (i + 1) acc h3) ∧
  ∀ acc h, Pv S.items.length acc h → R (.ref h1.length) h
theorem lcw_up {K : Fg} {si : TDI} {c : CTg} {tt : TDT} {te : TDE} {vs : List Nat} {σ : L2.St} {H : Hp} {Q : VK} (hv : ∀ i ∈ c.slots, i ∈ vs) (q : up K (dLcW si c tt te vs) σ H Q) : tLc (upI K si) (c.g K) (upT K tt) (up K te) vs σ H Q := by
  obtain ⟨I, δ, h, R, sr, hr, q, go⟩ := q
  refine ⟨I, δ, h, _, sr, hr, q, fun S h1 I1 H1 J ⟨Pv, p0, pG, psz, ps, pd⟩ s1 hr1 w Dd eD => ?_⟩
  have len1 : I1.length = h1.length := hr1.len
  have sr1 := (sr.step s1).wiped vs
  refine ⟨fun i m H2 => m + i = S.items.length ∧ ∃ acc h2 I2, HR K I2 h2 H2 ∧ Stp I1 H1 I2 H2 ∧ I2[h1.length]? = some Dd ∧ Pv i acc h2, ⟨S.items.length, Nat.add_zero _, [], h1 ++ [.lst []], I1 ++ [Dd], hr1.push (x := .lst []) eD ⟨[], upd_same, .nil⟩, Stp.push eD, by
    rw [← len1, List.getElem?_append_right (Nat.le_refl _), Nat.sub_self]
    rfl, p0⟩, ?_⟩
  rintro i m H2 ⟨hm, acc, h2, I2, hr2, s2, eD2, p2⟩
  obtain ⟨ha, hacc, gd⟩ := pG i acc h2 (by omega) p2
  by_cases hi : i = S.items.length
  · left
    subst hi
    exact ⟨w.stops _ H2 _ s2 hr2 gd, go _ h2 I2 H2 _ (pd acc h2 p2) (s1.trans s2) hr2 (.ref eD2)⟩
  · right
    have hlt : i < S.items.length := by omega
    have e : S.items[i]? = some S.items[i] := List.getElem?_eq_getElem hlt
    refine ⟨w.goes i _ H2 _ s2 hr2 gd hlt, fun H' => ∃ acc h2 I2, HR K I2 h2 H' ∧ Stp I1 H1 I2 H' ∧ I2[h1.length]? = some Dd ∧ Pv (i + 1) acc h2, ?_, ?_⟩
    · rintro H' ⟨acc', h', I', a, b, d, e'⟩
      exact ⟨m - 1, by omega, by omega, acc', h', I', a, b, d, e'⟩
    · intro x H3 y
      obtain ⟨s3, hr3, rd⟩ := w.yields i _ H2 _ _ x H3 s2 hr2 gd e y
      have s13 := s2.trans s3
      refine CTg.ok hv rd (sr1.step s13) (ps i _ acc h2 e p2) fun δ2 σ2 q2 sr2 ws => ⟨?_, ?_⟩
      · rw [ws]
        exact wipe_wipe σ vs
      · refine ⟨I2, δ2, h2, _, sr2, hr3, q2, fun b h3 I4 H4 q4 s4 hr4 => ?_⟩
        cases b with
        | false => exact ⟨acc, h3, I4, hr4, s13.trans s4, s4.at eD2, q4⟩
        | true =>
          refine ⟨I4, δ2, h3, _, sr2.step s4, hr4, q4, fun y h4 I5 H5 yv ⟨e4, p5⟩ s5 hr5 ry => ?_⟩
          have eD5 : I5[h1.length]? = some Dd := s5.at (s4.at eD2)
          obtain ⟨accV, eA, rA⟩ := hr5.ob _ Dd _ eD5 e4
          have mD : Dd ∈ I5 := List.mem_of_getElem? eD5
          have s6 : Stp I5 H5 I5 (upd H5 Dd (.lst (accV ++ [yv]))) := Stp.put mD ⟨_, eA, trivial⟩
          refine ⟨accV, eA, by rw [← rA.length]; omega, acc ++ [y], _, I5, hr5.put (x := .lst (acc ++ [y])) eD5 ⟨_, upd_same, (rA.append (.cons ry .nil)).step s6⟩, (s13.trans s4).trans (s5.trans s6), eD5, p5⟩
def dDcW (si : TDI) (c : CTg) (tt : TDT) (tk te : TDE) (vs : List Nat) : TDE := fun δ h R => si δ h fun S h1 => ∃ Pv : Nat → Qs → OS → Prop, Pv 0 [] (h1 ++ [.dct []]) ∧ (∀ i acc h, i ≤ S.items.length → Pv i acc h → h[h1.length]? = some (.dct acc) ∧ acc.length ≤ i ∧ S.G h) ∧ S.items.length < sizeLine ∧
  (∀ (i : Nat) d acc h, S.items[i]? = some d → Pv i acc h → c.put d (wipeD δ vs) fun δ2 => tt δ2 h fun b h3 =>
    if b = true then tk δ2 h3 fun y h4 => te δ2 h4 fun z h5 => ∃ k, keyD y = some k ∧ h5[h1.length]? = some (.dct acc) ∧ Pv (i + 1) (putQ acc k z) (h5.set h1.length (.dct (putQ acc k z))) else Pv (i + 1) acc h3) ∧
  ∀ acc h, Pv S.items.length acc h → R (.ref h1.length) h
theorem dcw_up {K : Fg} {si : TDI} {c : CTg} {tt : TDT} {tk te : TDE} {vs : List Nat} {σ : L2.St} {H : Hp} {Q : VK} (hv : ∀ i ∈ c.slots, i ∈ vs) (q : up K (dDcW si c tt tk te vs) σ H Q) : tDc (upI K si) (c.g K) (upT K tt) (up K tk) (up K te) vs σ H Q := by
  obtain ⟨I, δ, h, R, sr, hr, q, go⟩ := q
  refine ⟨I, δ, h, _, sr, hr, q, fun S h1 I1 H1 J ⟨Pv, p0, pG, psz, ps, pd⟩ s1 hr1 w Dd eD => ?_⟩
  have len1 : I1.length = h1.length := hr1.len
  have sr1 := (sr.step s1).wiped vs
  refine ⟨fun i m H2 => m + i = S.items.length ∧ ∃ acc h2 I2, HR K I2 h2 H2 ∧ Stp I1 H1 I2 H2 ∧ I2[h1.length]? = some Dd ∧ Pv i acc h2, ⟨S.items.length, Nat.add_zero _, [], h1 ++ [.dct []], I1 ++ [Dd], hr1.push (x := .dct []) eD ⟨[], upd_same, rfl, .nil⟩, Stp.push eD, by
    rw [← len1, List.getElem?_append_right (Nat.le_refl _), Nat.sub_self]
    rfl, p0⟩, ?_⟩
  rintro i m H2 ⟨hm, acc, h2, I2, hr2, s2, eD2, p2⟩
  obtain ⟨ha, hacc, gd⟩ := pG i acc h2 (by omega) p2
  by_cases hi : i = S.items.length
  · left
    subst hi
    exact ⟨w.stops _ H2 _ s2 hr2 gd, go _ h2 I2 H2 _ (pd acc h2 p2) (s1.trans s2) hr2 (.ref eD2)⟩
  · right
    have hlt : i < S.items.length := by omega
    have e : S.items[i]? = some S.items[i] := List.getElem?_eq_getElem hlt
    refine ⟨w.goes i _ H2 _ s2 hr2 gd hlt, fun H' => ∃ acc h2 I2, HR K I2 h2 H' ∧ Stp I1 H1 I2 H' ∧ I2[h1.length]? = some Dd ∧ Pv (i + 1) acc h2, ?_, ?_⟩
    · rintro H' ⟨acc', h', I', a, b, d, e'⟩
      exact ⟨m - 1, by omega, by omega, acc', h', I', a, b, d, e'⟩
    · intro x H3 y
      obtain ⟨s3, hr3, rd⟩ := w.yields i _ H2 _ _ x H3 s2 hr2 gd e y
      have s13 := s2.trans s3
      refine CTg.ok hv rd (sr1.step s13) (ps i _ acc h2 e p2) fun δ2 σ2 q2 sr2 ws => ⟨?_, ?_⟩
      · rw [ws]
        exact wipe_wipe σ vs
      · refine ⟨I2, δ2, h2, _, sr2, hr3, q2, fun b h3 I4 H4 q4 s4 hr4 => ?_⟩
        cases b with
        | false => exact ⟨acc, h3, I4, hr4, s13.trans s4, s4.at eD2, q4⟩
        | true =>
          refine ⟨I4, δ2, h3, _, sr2.step s4, hr4, q4, fun y h4 I5 H5 yv q5 s5 hr5 ry => ?_⟩
          refine ⟨I5, δ2, h4, _, (sr2.step s4).step s5, hr5, q5, fun z h5 I6 H6 zv ⟨k, ek, e6, p6⟩ s6 hr6 rz => ?_⟩
          have eD6 : I6[h1.length]? = some Dd := s6.at (s5.at (s4.at eD2))
          obtain ⟨accV, eA, eK, rA⟩ := hr6.ob _ Dd _ eD6 e6
          have kq : KQ K H6 I6 acc accV := ⟨eK, rA⟩
          have ey := keyD_ok (ry.step s6) ek
          have mD : Dd ∈ I6 := List.mem_of_getElem? eD6
          have s7 : Stp I6 H6 I6 (upd H6 Dd (.dK (putK accV k zv))) := Stp.put mD ⟨_, eA, trivial⟩
          have kq2 := (kq.put (k := k) rz).step s7
          exact ⟨accV, k, ey, eA, by rw [kq.len]; omega, putQ acc k z, _, I6, hr6.put (x := .dct (putQ acc k z)) eD6 ⟨_, upd_same, kq2.ks, kq2.vs⟩, (s13.trans s4).trans ((s5.trans s6).trans s7), eD6, p6⟩
section
variable {X : Cx} {kx elt tg iter : Expr} {ifs : List Expr} {scope : Scope} {own : List (Str × Nat)} {pos : Pos} {si : TDI} {c : CTg} {tt : TDT} {tk te : TDE}
theorem d_lcW (hc : X.calm = true) (hN : X.N.Nodup) (hi : DI X tg iter si) (ok : BlkOk X.N X.env.scope scope own) (hv : ∀ i ∈ c.slots, i ∈ own.map (·.2))
    (hg : ∀ (s : Shared) (H : Hp) (C : Addr) (cl : List (Str × Addr)) (fp : List Addr), PG (X.blk s H scope (compEnvC scope cl C X.env) fp) tg (c.g X.K)) (ht : ∀ (s : Shared) (H : Hp) (C : Addr) (cl : List (Str × Addr)) (fp : List Addr), DTs (X.blk s H scope (compEnvC scope cl C X.env) fp) ifs tt)
    (he : ∀ (s : Shared) (H : Hp) (C : Addr) (cl : List (Str × Addr)) (fp : List Addr), DE (X.blk s H scope (compEnvC scope cl C X.env) fp) elt te) (hs : ∀ x, foldedSetIterable iter X.env x = pure x := by intro _; rfl) :
    DE X (.ListComp elt [⟨tg, iter, ifs, 0⟩] scope pos) (dLcW si c tt te (own.map (·.2))) := PE.imp (pe_lc hc hN hi ok hg ht he hs) fun _ _ _ => lcw_up hv
theorem s_setLcW {i : Nat} {y : Str} {py : Pos} {spos : Pos} (hc : X.calm = true) (hN : X.N.Nodup) (hy : X.N[i]? = some y) (hyl : X.env.scope.names.lookup y = some .local)
    (hsw : swapsWith (.ListComp elt [⟨tg, iter, ifs, 0⟩] scope pos) (some (.Name y py)) spos.line X.env = pure true) (hi : DI X tg iter si) (ok : BlkOk X.N X.env.scope scope own) (hv : ∀ i ∈ c.slots, i ∈ own.map (·.2))
    (hg : ∀ (s : Shared) (H : Hp) (C : Addr) (cl : List (Str × Addr)) (fp : List Addr), PG (X.blk s H scope (compEnvC scope cl C X.env) fp) tg (c.g X.K)) (ht : ∀ (s : Shared) (H : Hp) (C : Addr) (cl : List (Str × Addr)) (fp : List Addr), DTs (X.blk s H scope (compEnvC scope cl C X.env) fp) ifs tt)
    (he : ∀ (s : Shared) (H : Hp) (C : Addr) (cl : List (Str × Addr)) (fp : List Addr), DE (X.blk s H scope (compEnvC scope cl C X.env) fp) elt te) (hs : ∀ x, foldedSetIterable iter X.env x = pure x := by intro _; rfl) :
    DSt X (.Assign [.Name y py] (.ListComp elt [⟨tg, iter, ifs, 0⟩] scope pos) spos) (dAsg (dLcW si c tt te (own.map (·.2))) (gN i)) :=
  PS.imp (ps_setLc hc hN hy hyl hsw hi ok hg ht he hs) fun E σ H ⟨I, δ, h, ED, sr, hr, q, g⟩ =>
    lcw_up (Q := fun v H1 => E.nx (σ.set i (some v)) H1) hv ⟨I, δ, h, fun d h1 => ED.nx (δ.set i (some d)) h1, sr, hr, q, fun d h1 I1 H1 v q1 s1 hr1 rd => g.nx _ h1 I1 H1 _ q1 s1 hr1 ((sr.step s1).set i rd)⟩
theorem d_dcW (hc : X.calm = true) (hN : X.N.Nodup) (hi : DI X tg iter si) (ok : BlkOk X.N X.env.scope scope own) (hv : ∀ i ∈ c.slots, i ∈ own.map (·.2))
    (hg : ∀ (s : Shared) (H : Hp) (C : Addr) (cl : List (Str × Addr)) (fp : List Addr), PG (X.blk s H scope (compEnvC scope cl C X.env) fp) tg (c.g X.K)) (ht : ∀ (s : Shared) (H : Hp) (C : Addr) (cl : List (Str × Addr)) (fp : List Addr), DTs (X.blk s H scope (compEnvC scope cl C X.env) fp) ifs tt)
    (hk : ∀ (s : Shared) (H : Hp) (C : Addr) (cl : List (Str × Addr)) (fp : List Addr), DE (X.blk s H scope (compEnvC scope cl C X.env) fp) kx tk)
    (he : ∀ (s : Shared) (H : Hp) (C : Addr) (cl : List (Str × Addr)) (fp : List Addr), DE (X.blk s H scope (compEnvC scope cl C X.env) fp) elt te) (hs : ∀ x, foldedSetIterable iter X.env x = pure x := by intro _; rfl) :
    DE X (.DictComp kx elt [⟨tg, iter, ifs, 0⟩] scope pos) (dDcW si c tt tk te (own.map (·.2))) := PE.imp (pe_dc hc hN hi ok hg ht hk he hs) fun _ _ _ => dcw_up hv
end

/-! ### as functions -/
def wipeV (σ : VS) : List Nat → VS
  | [] => σ
  | v :: vs => (wipeV σ vs).set v none
def restV (σ0 : VS) : List Nat → VS → VS
  | [], σ => σ
  | v :: vs, σ => match σ0[v]? with
    | some (some (.v d)) => (restV σ0 vs σ).set v (some (.v d))
    | _ => restV σ0 vs σ
def setAllV : VS → List Nat → List D → VS
  | σ, i :: is, d :: ds => setAllV (σ.set i (some (.v d))) is ds
  | σ, _, _ => σ
def yC : CTg → YG
  | .one i => yN i
  | .many is => fun d σ => match d with
    | .tup ds => if ds.length = is.length then some (setAllV σ is ds) else none
    | _ => none
open Classical in
noncomputable def lcL (y : YG) (yt : XT) (xe : XE) (vs : List Nat) (gd : VS → Prop) : List D → List D → VS → Option (List D × VS)
  | [], acc, σ => if gd σ then some (acc, σ) else none
  | d :: ds, acc, σ => if gd σ then (y d σ).bind fun σ1 => (yt σ1).bind fun p => if p.1 = true then (xe p.2).bind fun q => lcL y yt xe vs gd ds (acc ++ [q.1]) (wipeV q.2 vs) else lcL y yt xe vs gd ds acc (wipeV p.2 vs) else none
noncomputable def xLc (s : XI) (y : YG) (yt : XT) (xe : XE) (vs : List Nat) : XF := fun σ => (s σ).bind fun p => if p.1.1.length < 16777216 then (lcL y yt xe vs p.1.2 p.1.1 [] (wipeV p.2 vs)).map fun r => (.l r.1, restV p.2 vs r.2) else none
open Classical in
noncomputable def dcL (y : YG) (yt : XT) (xk xe : XE) (vs : List Nat) (gd : VS → Prop) : List D → Qs → VS → Option (Qs × VS)
  | [], acc, σ => if gd σ then some (acc, σ) else none
  | d :: ds, acc, σ => if gd σ then (y d σ).bind fun σ1 => (yt σ1).bind fun p => if p.1 = true then (xk p.2).bind fun q => (xe q.2).bind fun z => (keyD q.1).bind fun k => dcL y yt xk xe vs gd ds (putQ acc k z.1) (wipeV z.2 vs) else dcL y yt xk xe vs gd ds acc (wipeV p.2 vs) else none
noncomputable def xDc (s : XI) (y : YG) (yt : XT) (xk xe : XE) (vs : List Nat) : XF := fun σ => (s σ).bind fun p => if p.1.1.length < 16777216 then (dcL y yt xk xe vs p.1.2 p.1.1 [] (wipeV p.2 vs)).map fun r => (.q r.1, restV p.2 vs r.2) else none
theorem lcL_gd {y : YG} {yt : XT} {xe : XE} {vs : List Nat} {gd : VS → Prop} {ds acc : List D} {σ : VS} {r : List D × VS} (e : lcL y yt xe vs gd ds acc σ = some r) : gd σ := by
  cases ds with
  | nil =>
    unfold lcL at e
    split at e
    · assumption
    · cases e
  | cons d ds =>
    unfold lcL at e
    split at e
    · assumption
    · cases e
theorem dcL_gd {y : YG} {yt : XT} {xk xe : XE} {vs : List Nat} {gd : VS → Prop} {ds : List D} {acc : Qs} {σ : VS} {r : Qs × VS} (e : dcL y yt xk xe vs gd ds acc σ = some r) : gd σ := by
  cases ds with
  | nil =>
    unfold dcL at e
    split at e
    · assumption
    · cases e
  | cons d ds =>
    unfold dcL at e
    split at e
    · assumption
    · cases e
theorem wipeV_len (σ : VS) : ∀ vs : List Nat, (wipeV σ vs).length = σ.length
  | [] => rfl
  | v :: vs => by
    show ((wipeV σ vs).set v none).length = _
    rw [List.length_set, wipeV_len σ vs]
theorem wipeD_len (σ : DS) : ∀ vs : List Nat, (wipeD σ vs).length = σ.length
  | [] => rfl
  | v :: vs => by
    show ((wipeD σ vs).set v none).length = _
    rw [List.length_set, wipeD_len σ vs]
theorem wipeV_at {σ : VS} {i : Nat} {w : W} : ∀ {vs : List Nat}, (wipeV σ vs)[i]? = some (some w) → σ[i]? = some (some w) ∧ i ∉ vs
  | [], e => ⟨e, List.not_mem_nil⟩
  | v :: vs, e => by
    have e' : ((wipeV σ vs).set v none)[i]? = some (some w) := e
    by_cases z : v = i
    · subst z
      by_cases hl : v < (wipeV σ vs).length
      · rw [List.getElem?_set_self hl] at e'
        cases e'
      · rw [List.getElem?_eq_none (by rw [List.length_set]; omega)] at e'
        cases e'
    · rw [List.getElem?_set_ne z] at e'
      obtain ⟨a, b⟩ := wipeV_at e'
      exact ⟨a, fun m => by
        rcases List.mem_cons.mp m with y | y
        · exact z y.symm
        · exact b y⟩
theorem wipeD_other {δ : DS} {i : Nat} : ∀ {vs : List Nat}, i ∉ vs → (wipeD δ vs)[i]? = δ[i]?
  | [], _ => rfl
  | v :: vs, h => by
    show ((wipeD δ vs).set v none)[i]? = _
    rw [List.getElem?_set_ne (by intro z; subst z; exact h (List.mem_cons_self ..)), wipeD_other fun m => h (List.mem_cons_of_mem _ m)]
theorem wipeD_at {δ : DS} {i : Nat} {d : D} : ∀ {vs : List Nat}, (wipeD δ vs)[i]? = some (some d) → δ[i]? = some (some d) ∧ i ∉ vs
  | [], e => ⟨e, List.not_mem_nil⟩
  | v :: vs, e => by
    have e' : ((wipeD δ vs).set v none)[i]? = some (some d) := e
    by_cases z : v = i
    · subst z
      by_cases hl : v < (wipeD δ vs).length
      · rw [List.getElem?_set_self hl] at e'
        cases e'
      · rw [List.getElem?_eq_none (by rw [List.length_set]; omega)] at e'
        cases e'
    · rw [List.getElem?_set_ne z] at e'
      obtain ⟨a, b⟩ := wipeD_at e'
      exact ⟨a, fun m => by
        rcases List.mem_cons.mp m with y | y
        · exact z y.symm
        · exact b y⟩
theorem RpS.sub {h : OS} {σ σ' : VS} {δ δ' : DS} {c : Co} (r : RpS h σ δ c) (hl : σ'.length = δ'.length) (f : ∀ (i : Nat) (w : W), σ'[i]? = some (some w) → σ[i]? = some (some w) ∧ δ'[i]? = δ[i]?) : RpS h σ' δ' c :=
  ⟨hl, fun i w e => by
    obtain ⟨a, b⟩ := f i w e
    rw [b]
    exact r.look i w a⟩
theorem RpS.wipe {h : OS} {σ : VS} {δ : DS} {c : Co} (r : RpS h σ δ c) (vs : List Nat) : RpS h (wipeV σ vs) (wipeD δ vs) c :=
  r.sub (by rw [wipeV_len, wipeD_len]; exact r.len) fun i w e => by
    obtain ⟨a, b⟩ := wipeV_at e
    exact ⟨a, wipeD_other b⟩
theorem restV_len (σ0 : VS) : ∀ (vs : List Nat) (σ : VS), (restV σ0 vs σ).length = σ.length
  | [], σ => rfl
  | v :: vs, σ => by
    unfold restV
    split
    · rw [List.length_set, restV_len σ0 vs]
    · exact restV_len σ0 vs σ
theorem restV_at {σ0 : VS} {i : Nat} {w : W} : ∀ {vs : List Nat} {σ : VS}, (restV σ0 vs σ)[i]? = some (some w) → σ[i]? = some (some w) ∨ ∃ d, w = .v d ∧ σ0[i]? = some (some (.v d))
  | [], σ, e => Or.inl e
  | v :: vs, σ, e => by
    unfold restV at e
    split at e
    · rename_i d z
      by_cases y : v = i
      · subst y
        by_cases hl : v < (restV σ0 vs σ).length
        · rw [List.getElem?_set_self hl] at e
          cases e
          exact Or.inr ⟨d, rfl, z⟩
        · rw [List.getElem?_eq_none (by rw [List.length_set]; omega)] at e
          cases e
      · rw [List.getElem?_set_ne y] at e
        exact restV_at e
    · exact restV_at e
/-- the names of a comprehension as they were -/
theorem RpS.rest {h h0 : OS} {σ σ0 : VS} {δ : DS} {c c0 : Co} {vs : List Nat} (r0 : RpS h0 σ0 δ c0) (r : RpS h σ (wipeD δ vs) c) : RpS h (restV σ0 vs σ) δ c := by
  refine ⟨by rw [restV_len, r.len, wipeD_len], fun i w e => ?_⟩
  rcases restV_at e with e1 | ⟨d, rfl, e1⟩
  · obtain ⟨d, e2, rp⟩ := r.look i w e1
    exact ⟨d, (wipeD_at e2).1, rp⟩
  · obtain ⟨d', e2, rp⟩ := r0.look i _ e1
    have : d' = d := rp
    subst this
    exact ⟨d', e2, rfl⟩
theorem yC_many {h : OS} {cc : Co} : ∀ {is : List Nat} {ds : List D} {σ : VS} {δ : DS}, RpS h σ δ cc → ∃ c', RpS h (setAllV σ is ds) (setAll δ is ds) c' ∧ Ch h cc h c'
  | [], _, σ, δ, r => ⟨cc, r, Ch.refl⟩
  | _ :: _, [], σ, δ, r => ⟨cc, r, Ch.refl⟩
  | i :: is, d :: ds, σ, δ, r => by
    have rp : Rp h (fun _ => False) (.v d) d := rfl
    obtain ⟨c', r', ch'⟩ := yC_many (is := is) (ds := ds) (r.assign i rp fun n z => z.elim)
    exact ⟨c', r', (Ch.refl.assign fun n z => z.elim).trans ch'⟩
theorem setAll_other {j : Nat} : ∀ {is : List Nat} {ds : List D} {δ : DS}, j ∉ is → (setAll δ is ds)[j]? = δ[j]?
  | [], _, _, _ => rfl
  | _ :: _, [], _, _ => rfl
  | i :: is, d :: ds, δ, h => by
    show (setAll (δ.set i (some d)) is ds)[j]? = _
    rw [setAll_other fun m => h (List.mem_cons_of_mem _ m), List.getElem?_set_ne (by intro z; subst z; exact h (List.mem_cons_self ..))]
theorem yC_ok {h : OS} {cc : Co} {cg : CTg} {d : D} {σ σ' : VS} {δ : DS} {R : DS → Prop} (e : yC cg d σ = some σ') (r : RpS h σ δ cc) (q : ∀ δ' c', RpS h σ' δ' c' → Ch h cc h c' → (∀ i, i ∉ cg.slots → δ'[i]? = δ[i]?) → R δ') : cg.put d δ R := by
  cases cg with
  | one i =>
    cases e
    have rp : Rp h (fun _ => False) (.v d) d := rfl
    exact q _ _ (r.assign i rp fun n z => z.elim) (Ch.refl.assign fun n z => z.elim) fun j hj => List.getElem?_set_ne (by intro z; subst z; exact hj (List.mem_cons_self ..))
  | many is =>
    unfold yC at e
    dsimp only at e
    split at e
    · rename_i ds
      split at e
      · rename_i hl
        cases e
        obtain ⟨c', r', ch'⟩ := yC_many (is := is) (ds := ds) r
        exact ⟨ds, rfl, hl, q _ _ r' ch' fun j hj => setAll_other hj⟩
      · cases e
    · cases e
theorem Ch.past {h0 h : OS} {c0 c : Co} {m : Nat} {o : O} (ch : Ch h0 c0 h c) (hm : h0.length ≤ m) : Ch h0 c0 (h.set m o) c := ⟨by rw [List.length_set]; exact ch.ln, fun n o' e z => by
  obtain ⟨a, b⟩ := ch.kp n o' e z
  refine ⟨?_, b⟩
  rw [List.getElem?_set_ne (by have := look_lt e; omega)]
  exact a⟩
theorem RpS.past {h : OS} {σ : VS} {δ : DS} {c : Co} {m : Nat} {o : O} (r : RpS h σ δ c) (cm : c m = none) : RpS (h.set m o) σ δ c := ⟨r.len, fun i w e => by
  obtain ⟨d, e1, rp⟩ := r.look i w e
  refine ⟨d, e1, rp.move fun n o' s e2 => ⟨?_, s⟩⟩
  have s' : c n = some i := s
  rw [List.getElem?_set_ne (by intro z; subst z; rw [cm] at s'; cases s')]
  exact e2⟩
theorem RpS.back {h : OS} {σ : VS} {δ δ2 : DS} {c : Co} {vs : List Nat} (r : RpS h σ δ2 c) (f : ∀ i, i ∉ vs → δ2[i]? = (wipeD δ vs)[i]?) (hl : σ.length = δ.length) : RpS h (wipeV σ vs) (wipeD δ vs) c :=
  r.sub (by rw [wipeV_len, wipeD_len]; exact hl) fun i w e => by
    obtain ⟨a, b⟩ := wipeV_at e
    exact ⟨a, (f i b).symm⟩
theorem Rp.slt {h : OS} {σ : VS} {δ : DS} {c : Co} (r : RpS h σ δ c) : σ.length = δ.length := r.len
section
variable {P : List Nat} {si : TDI} {s : XI} {cg : CTg} {tt : TDT} {yt : XT} {tk te : TDE} {xk xe : XE} {vs : List Nat}
theorem put_len {cg : CTg} {d : D} {δ : DS} {R : DS → Prop} (q : cg.put d δ R) : cg.put d δ fun δ' => R δ' ∧ δ'.length = δ.length := by
  have sa : ∀ {is : List Nat} {ds : List D} {δ : DS}, (setAll δ is ds).length = δ.length := by
    intro is
    induction is with
    | nil => intro ds δ; rfl
    | cons i is ih =>
      intro ds δ
      cases ds with
      | nil => rfl
      | cons d ds =>
        show (setAll (δ.set i (some d)) is ds).length = _
        rw [ih, List.length_set]
  cases cg with
  | one i => exact ⟨q, List.length_set ..⟩
  | many is =>
    obtain ⟨ds, e, hl, q⟩ := q
    exact ⟨ds, e, hl, q, sa⟩
theorem v_lc (hs : SI P si s) (hp : ∀ i ∈ P, i ∉ vs) (hsl : ∀ i ∈ cg.slots, i ∈ vs) (ht : ST' tt yt) (he : SE te xe) : SF (dLcW si cg tt te vs) (xLc s (yC cg) yt xe vs) := fun σ w σ' e δ h c R r q => by
  obtain ⟨⟨⟨its, gd⟩, σ1⟩, e1, e⟩ := bind_some e
  dsimp only at e
  split at e
  · rename_i hsz
    obtain ⟨⟨fin, σf⟩, e2, e3⟩ := map_some e
    cases e3
    refine hs σ its gd σ1 e1 δ h c _ r fun h1 c1 G r1 ch1 hG => ?_
    have fxw : Fix P δ (wipeD δ vs) := fun i m => wipeD_other (hp i m)
    obtain ⟨rp1, chp⟩ := r1.push (.lst [])
    refine ⟨fun i acc h2 => ∃ σ2 c2, RpS h2 σ2 (wipeD δ vs) c2 ∧ Ch h1 c1 h2 c2 ∧ h2[h1.length]? = some (.lst acc) ∧ c2 h1.length = none ∧ acc.length ≤ i ∧ lcL (yC cg) yt xe vs gd (its.drop i) acc σ2 = some (fin, σf), ⟨_, _, rp1.wipe vs, chp, look_end, if_pos rfl, Nat.le_refl _, e2⟩, ?_, hsz, ?_, ?_⟩
    · rintro i acc h2 _ ⟨σ2, c2, r2, ch2, hm, cm, hl, e4⟩
      exact ⟨hm, hl, hG σ2 _ h2 c2 r2 ch2 fxw (lcL_gd e4)⟩
    · rintro i d acc h2 ei ⟨σ2, c2, r2, ch2, hm, cm, hl, e4⟩
      have ei' : its[i]? = some d := ei
      rw [drop_get ei'] at e4
      unfold lcL at e4
      split at e4
      · obtain ⟨σ3, e5, e4⟩ := bind_some e4
        obtain ⟨⟨b, σ4⟩, e6, e4⟩ := bind_some e4
        refine yC_ok e5 r2 fun δ3 c3 r3 ch3 f3 => ?_
        have f3' : ∀ i, i ∉ vs → δ3[i]? = (wipeD δ vs)[i]? := fun i hi => f3 i fun z => hi (hsl i z)
        refine ht σ3 b σ4 e6 δ3 h2 c3 _ r3 fun h4 c4 r4 ch4 => ?_
        obtain ⟨m3, n3⟩ := ch3.kp _ _ hm cm
        obtain ⟨m4, n4⟩ := ch4.kp _ _ m3 n3
        dsimp only at e4
        by_cases z : b = true
        · rw [if_pos z] at e4 ⊢
          obtain ⟨⟨y, σ5⟩, e7, e4⟩ := bind_some e4
          refine he σ4 y σ5 e7 δ3 h4 c4 _ r4 fun h5 c5 r5 ch5 => ?_
          obtain ⟨m5, n5⟩ := ch5.kp _ _ m4 n4
          refine ⟨m5, wipeV σ5 vs, c5, (r5.past n5).back f3' ?_, (((ch2.trans ch3).trans ch4).trans ch5).past (Nat.le_refl _), look_set m5, n5, by rw [List.length_append]; simpa using hl, e4⟩
          have l3 : δ3.length = δ.length := by
            have a := r3.len
            have := r2.len
            rw [wipeD_len] at this
            have y3 : σ3.length = σ2.length := by
              cases cg with
              | one i =>
                cases e5
                exact List.length_set ..
              | many is =>
                unfold yC at e5
                dsimp only at e5
                split at e5
                · split at e5
                  · cases e5
                    have sa : ∀ {is : List Nat} {ds : List D} {σ : VS}, (setAllV σ is ds).length = σ.length := by
                      intro is
                      induction is with
                      | nil => intro ds δ; rfl
                      | cons i is ih =>
                        intro ds δ
                        cases ds with
                        | nil => rfl
                        | cons d ds =>
                          show (setAllV (δ.set i (some (.v d))) is ds).length = _
                          rw [ih, List.length_set]
                    exact sa
                  · cases e5
                · cases e5
            omega
          rw [r5.len, l3]
        · rw [if_neg z] at e4 ⊢
          refine ⟨wipeV σ4 vs, c4, r4.back f3' ?_, (ch2.trans ch3).trans ch4, m4, n4, by omega, e4⟩
          have l3 : δ3.length = δ.length := by
            have a := r3.len
            have := r2.len
            rw [wipeD_len] at this
            have y3 : σ3.length = σ2.length := by
              cases cg with
              | one i =>
                cases e5
                exact List.length_set ..
              | many is =>
                unfold yC at e5
                dsimp only at e5
                split at e5
                · split at e5
                  · cases e5
                    have sa : ∀ {is : List Nat} {ds : List D} {σ : VS}, (setAllV σ is ds).length = σ.length := by
                      intro is
                      induction is with
                      | nil => intro ds δ; rfl
                      | cons i is ih =>
                        intro ds δ
                        cases ds with
                        | nil => rfl
                        | cons d ds =>
                          show (setAllV (δ.set i (some (.v d))) is ds).length = _
                          rw [ih, List.length_set]
                    exact sa
                  · cases e5
                · cases e5
            omega
          rw [r4.len, l3]
      · cases e4
    · rintro acc h2 ⟨σ2, c2, r2, ch2, hm, cm, hl, e4⟩
      have e0 : its.drop its.length = [] := List.drop_length
      have e4' : lcL (yC cg) yt xe vs gd (its.drop its.length) acc σ2 = some (fin, σf) := e4
      rw [e0] at e4'
      unfold lcL at e4'
      split at e4'
      · cases e4'
        refine q _ h2 c2 (fun n => n = h1.length) (r1.rest r2) (ch1.trans ch2) ⟨_, rfl, rfl, hm⟩ fun n s => ?_
        have s' : n = h1.length := s
        subst s'
        exact ⟨look_lt hm, cm, fun z => by
          have := ch1.ln
          omega⟩
      · cases e4'
  · cases e
end
end FL
end
section
/-! The value layer: dict comprehensions, locks, sorted, sources; a law's end. -/
namespace FL
open PySem PySem.Spec PyProof.Rows L2
open Classical

/-- the left one a new thing -/
def xOpF (g : G2) (xa : XF) (xb : XE) : XE := fun σ => (xa σ).bind fun p => (xb p.2).bind fun q => p.1.vo.bind fun x => (g x q.1).map fun r => (r, q.2)
theorem v_opF {f : F2} {g : G2} {ta tb : TDE} {xa : XF} {xb : XE} (o : Bi2 f g) (ha : SF ta xa) (hb : SV tb xb) : SE (dOp f ta tb) (xOpF g xa xb) := fun σ d σ' e δ h c R r q => by
  obtain ⟨⟨a, σ1⟩, e1, e⟩ := bind_some e
  obtain ⟨⟨b, σ2⟩, e2, e⟩ := bind_some e
  obtain ⟨x, ex, e⟩ := bind_some e
  obtain ⟨z, e3, e4⟩ := map_some e
  cases e4
  refine ha σ a σ1 e1 δ h c _ r fun a' h1 c1 S r1 ch1 rp fr => hb σ1 b _ e2 δ h1 c1 _ r1 fun b' h2 c2 r2 ch2 vb => ?_
  exact o _ a' b b' _ h2 R e3 ((rp.keep (fun n s => (fr n s).2.1) ch2).vw ex) vb (q h2 c2 r2 (ch1.trans ch2))
def xSlF (xa : XF) (xl xh : XO) : XE := fun σ => (xa σ).bind fun p => (xl p.2).bind fun q => (xh q.2).bind fun s => p.1.vo.bind fun x => (gCut x q.1 s.1).map fun r => (r, s.2)
theorem v_slF {te : TDE} {xe : XF} {tl th : TDO} {xl xh : XO} (a : SF te xe) (b : SO tl xl) (d : SO th xh) : SE (dSl fCut te tl th) (xSlF xe xl xh) := fun σ v σ' e δ h c R r q => by
  obtain ⟨⟨v1, σ1⟩, e1, e⟩ := bind_some e
  obtain ⟨⟨v2, σ2⟩, e2, e⟩ := bind_some e
  obtain ⟨⟨v3, σ3⟩, e3, e⟩ := bind_some e
  obtain ⟨x, ex, e⟩ := bind_some e
  obtain ⟨z, e4, e5⟩ := map_some e
  cases e5
  exact a σ v1 σ1 e1 δ h c _ r fun a' h1 c1 S r1 ch1 rp fr => b σ1 v2 σ2 e2 δ h1 c1 _ r1 fun h2 c2 r2 ch2 => d σ2 v3 _ e3 δ h2 c2 _ r2 fun h3 c3 r3 ch3 => cut_ok e4 ((rp.keep (fun n s => (fr n s).2.1) (ch2.trans ch3)).vw ex) (q h3 c3 r3 ((ch1.trans ch2).trans ch3))
theorem yC_len {cg : CTg} {d : D} {σ σ' : VS} (e : yC cg d σ = some σ') : σ'.length = σ.length := by
  have sa : ∀ {is : List Nat} {ds : List D} {σ : VS}, (setAllV σ is ds).length = σ.length := by
    intro is
    induction is with
    | nil => intro ds δ; rfl
    | cons i is ih =>
      intro ds δ
      cases ds with
      | nil => rfl
      | cons d ds =>
        show (setAllV (δ.set i (some (.v d))) is ds).length = _
        rw [ih, List.length_set]
  cases cg with
  | one i =>
    cases e
    exact List.length_set ..
  | many is =>
    unfold yC at e
    dsimp only at e
    split at e
    · split at e
      · cases e
        exact sa
      · cases e
    · cases e
section
variable {P : List Nat} {si : TDI} {s : XI} {cg : CTg} {tt : TDT} {yt : XT} {tk te : TDE} {xk xe : XE} {vs : List Nat}
theorem v_dc (hs : SI P si s) (hp : ∀ i ∈ P, i ∉ vs) (hsl : ∀ i ∈ cg.slots, i ∈ vs) (ht : ST' tt yt) (hk : SE tk xk) (he : SE te xe) : SF (dDcW si cg tt tk te vs) (xDc s (yC cg) yt xk xe vs) := fun σ w σ' e δ h c R r q => by
  obtain ⟨⟨⟨its, gd⟩, σ1⟩, e1, e⟩ := bind_some e
  dsimp only at e
  split at e
  · rename_i hsz
    obtain ⟨⟨fin, σf⟩, e2, e3⟩ := map_some e
    cases e3
    refine hs σ its gd σ1 e1 δ h c _ r fun h1 c1 G r1 ch1 hG => ?_
    have fxw : Fix P δ (wipeD δ vs) := fun i m => wipeD_other (hp i m)
    obtain ⟨rp1, chp⟩ := r1.push (.dct [])
    refine ⟨fun i acc h2 => ∃ σ2 c2, RpS h2 σ2 (wipeD δ vs) c2 ∧ Ch h1 c1 h2 c2 ∧ h2[h1.length]? = some (.dct acc) ∧ c2 h1.length = none ∧ acc.length ≤ i ∧ dcL (yC cg) yt xk xe vs gd (its.drop i) acc σ2 = some (fin, σf), ⟨_, _, rp1.wipe vs, chp, look_end, if_pos rfl, Nat.le_refl _, e2⟩, ?_, hsz, ?_, ?_⟩
    · rintro i acc h2 _ ⟨σ2, c2, r2, ch2, hm, cm, hl, e4⟩
      exact ⟨hm, hl, hG σ2 _ h2 c2 r2 ch2 fxw (dcL_gd e4)⟩
    · rintro i d acc h2 ei ⟨σ2, c2, r2, ch2, hm, cm, hl, e4⟩
      have ei' : its[i]? = some d := ei
      rw [drop_get ei'] at e4
      unfold dcL at e4
      split at e4
      · obtain ⟨σ3, e5, e4⟩ := bind_some e4
        obtain ⟨⟨b, σ4⟩, e6, e4⟩ := bind_some e4
        refine yC_ok e5 r2 fun δ3 c3 r3 ch3 f3 => ?_
        have f3' : ∀ i, i ∉ vs → δ3[i]? = (wipeD δ vs)[i]? := fun i hi => f3 i fun z => hi (hsl i z)
        have l3 : δ3.length = δ.length := by
          have a := r3.len
          have b := r2.len
          rw [wipeD_len] at b
          have := yC_len e5
          omega
        refine ht σ3 b σ4 e6 δ3 h2 c3 _ r3 fun h4 c4 r4 ch4 => ?_
        obtain ⟨m3, n3⟩ := ch3.kp _ _ hm cm
        obtain ⟨m4, n4⟩ := ch4.kp _ _ m3 n3
        dsimp only at e4
        by_cases z : b = true
        · rw [if_pos z] at e4 ⊢
          obtain ⟨⟨y, σ5⟩, e7, e4⟩ := bind_some e4
          obtain ⟨⟨v, σ6⟩, e8, e4⟩ := bind_some e4
          obtain ⟨k, e9, e4⟩ := bind_some e4
          refine hk σ4 y σ5 e7 δ3 h4 c4 _ r4 fun h5 c5 r5 ch5 => he σ5 v σ6 e8 δ3 h5 c5 _ r5 fun h6 c6 r6 ch6 => ?_
          obtain ⟨m5, n5⟩ := ch5.kp _ _ m4 n4
          obtain ⟨m6, n6⟩ := ch6.kp _ _ m5 n5
          refine ⟨k, e9, m6, wipeV σ6 vs, c6, (r6.past n6).back f3' (by rw [r6.len, l3]), ((((ch2.trans ch3).trans ch4).trans ch5).trans ch6).past (Nat.le_refl _), look_set m6, n6, ?_, e4⟩
          have := putQ_len acc k v
          omega
        · rw [if_neg z] at e4 ⊢
          exact ⟨wipeV σ4 vs, c4, r4.back f3' (by rw [r4.len, l3]), (ch2.trans ch3).trans ch4, m4, n4, by omega, e4⟩
      · cases e4
    · rintro acc h2 ⟨σ2, c2, r2, ch2, hm, cm, hl, e4⟩
      have e0 : its.drop its.length = [] := List.drop_length
      have e4' : dcL (yC cg) yt xk xe vs gd (its.drop its.length) acc σ2 = some (fin, σf) := e4
      rw [e0] at e4'
      unfold dcL at e4'
      split at e4'
      · cases e4'
        refine q _ h2 c2 (fun n => n = h1.length) (r1.rest r2) (ch1.trans ch2) ⟨_, rfl, rfl, hm⟩ fun n s => ?_
        have s' : n = h1.length := s
        subst s'
        exact ⟨look_lt hm, cm, fun z => by
          have := ch1.ln
          omega⟩
      · cases e4'
  · cases e
/-! ### a dict that is walked -/
noncomputable def unl (j : Nat) (qs : Qs) : Out → Option Out
  | .nx σ => if σ[j]? = some (some (.f qs)) then some (.nx (σ.set j (some (.q qs)))) else none
  | .rt w σ => if σ[j]? = some (some (.f qs)) then some (.rt w (σ.set j (some (.q qs)))) else none
  | .bk σ => if σ[j]? = some (some (.f qs)) then some (.bk (σ.set j (some (.q qs)))) else none
  | .ct σ => if σ[j]? = some (some (.f qs)) then some (.ct (σ.set j (some (.q qs)))) else none
noncomputable def xLockS (j : Nat) (x : XS) : XS := fun σ => match σ[j]? with
  | some (some (.q qs)) => (x (σ.set j (some (.f qs)))).bind fun o => unl j qs o
  | _ => none
noncomputable def xLockF (j : Nat) (x : XF) : XF := fun σ => match σ[j]? with
  | some (some (.q qs)) => (x (σ.set j (some (.f qs)))).bind fun p => if p.2[j]? = some (some (.f qs)) then some (p.1, p.2.set j (some (.q qs))) else none
  | _ => none
/-- unlocked -/
theorem RpS.unl {h' : OS} {σ' : VS} {δ δ' : DS} {c' : Co} {qs : Qs} {j n : Nat} (r : RpS h' σ' δ' c') (e : σ'[j]? = some (some (.f qs))) (e0 : δ[j]? = some (some (.ref n))) (fx : δ'[j]? = δ[j]?) :
    h'[n]? = some (.fdc qs) ∧ RpS (h'.set n (.dct qs)) (σ'.set j (some (.q qs))) δ' c' ∧ Ch h' c' (h'.set n (.dct qs)) c' ∧ c' n ≠ none := by
  obtain ⟨n2, e1, e2, r2, ch2⟩ := r.put (w' := .q qs) e rfl rfl
  obtain ⟨d, e3, n3, rfl, cn, _⟩ := r.look j _ e
  rw [fx, e0] at e1 e3
  cases e1
  cases e3
  exact ⟨e2, r2, ch2, by rw [show c' n = some j from cn]; intro z; cases z⟩
theorem v_lockS {j : Nat} {t : TDS} {x : XS} (hj : j ∈ P) (a : SS P t x) : SS P (dLock t) (xLockS j x) := fun σ o e δ h c E r q => by
  unfold xLockS at e
  split at e
  · rename_i qs z
    obtain ⟨o1, e1, e⟩ := bind_some e
    obtain ⟨n, e2, e3, r1, ch1⟩ := r.put (w' := .f qs) z rfl rfl
    refine ⟨n, qs, e3, a _ o1 e1 δ _ c _ r1 ?_⟩
    cases o1 with
    | nx σ' =>
      intro δ' h' c' r' ch' fx
      dsimp only [FL.unl] at e
      split at e
      · rename_i z2
        cases e
        obtain ⟨u1, u2, u3, _⟩ := r'.unl z2 e2 (fx j hj)
        exact ⟨u1, q δ' _ c' u2 ((ch1.trans ch').trans u3) fx⟩
      · cases e
    | bk σ' =>
      intro δ' h' c' r' ch' fx
      dsimp only [FL.unl] at e
      split at e
      · rename_i z2
        cases e
        obtain ⟨u1, u2, u3, _⟩ := r'.unl z2 e2 (fx j hj)
        exact ⟨u1, q δ' _ c' u2 ((ch1.trans ch').trans u3) fx⟩
      · cases e
    | ct σ' =>
      intro δ' h' c' r' ch' fx
      dsimp only [FL.unl] at e
      split at e
      · rename_i z2
        cases e
        obtain ⟨u1, u2, u3, _⟩ := r'.unl z2 e2 (fx j hj)
        exact ⟨u1, q δ' _ c' u2 ((ch1.trans ch').trans u3) fx⟩
      · cases e
    | rt w σ' =>
      intro d δ' h' c' S r' ch' fx rp fr
      dsimp only [FL.unl] at e
      split at e
      · rename_i z2
        cases e
        obtain ⟨u1, u2, u3, u4⟩ := r'.unl z2 e2 (fx j hj)
        refine ⟨u1, q d δ' _ c' S u2 ((ch1.trans ch').trans u3) fx (rp.move fun m o s em => ⟨?_, s⟩) ?_⟩
        · rw [List.getElem?_set_ne (by intro y; subst y; exact u4 (fr _ s).2.1)]
          exact em
        · intro m s
          obtain ⟨f1, f2, f3⟩ := fr m s
          exact ⟨by rw [List.length_set]; exact f1, f2, fun hl => f3 (by rw [List.length_set]; exact hl)⟩
      · cases e
  · cases e
theorem v_lockF {j : Nat} {t : TDE} {x : XF} (a : SF t x) : SF (dLockE t) (xLockF j x) := fun σ w σ' e δ h c R r q => by
  unfold xLockF at e
  split at e
  · rename_i qs z
    obtain ⟨⟨w1, σ1⟩, e1, e⟩ := bind_some e
    dsimp only at e
    split at e
    · rename_i z2
      cases e
      obtain ⟨n, e2, e3, r1, ch1⟩ := r.put (w' := .f qs) z rfl rfl
      refine ⟨n, qs, e3, a _ _ _ e1 δ _ c _ r1 fun d h' c' S r' ch' rp fr => ?_⟩
      obtain ⟨u1, u2, u3, u4⟩ := r'.unl z2 e2 rfl
      refine ⟨u1, q d _ c' S u2 ((ch1.trans ch').trans u3) (rp.move fun m o s em => ⟨?_, s⟩) ?_⟩
      · rw [List.getElem?_set_ne (by intro y; subst y; exact u4 (fr _ s).2.1)]
        exact em
      · intro m s
        obtain ⟨f1, f2, f3⟩ := fr m s
        exact ⟨by rw [List.length_set]; exact f1, f2, fun hl => f3 (by rw [List.length_set]; exact hl)⟩
    · cases e
  · cases e
def iK (j : Nat) : XI := fun σ => match σ[j]? with
  | some (some (.f qs)) => some ((qs.map fun q => keyTo q.1, gdT), σ)
  | _ => none
theorem v_iK {j : Nat} : SI P (iKeysD (dVar j)) (iK j) := fun σ its gd σ' e δ h c RS r q => by
  unfold iK at e
  split at e
  · rename_i qs z
    cases e
    obtain ⟨d, e1, n, rfl, cn, hn⟩ := r.look j _ z
    exact ⟨_, e1, n, qs, rfl, hn, q h c _ r Ch.refl fun _ _ _ _ _ _ _ _ => trivial⟩
  · cases e
def iS (x : XE) : XI := fun σ => (x σ).bind fun p => match p.1 with
  | .str z => some ((signsD z, gdT), p.2)
  | _ => none
theorem v_iS (a : SE te xe) : SI P (iStrD te) (iS xe) := fun σ its gd σ' e δ h c RS r q => by
  obtain ⟨⟨d, σ1⟩, e1, e⟩ := bind_some e
  refine a σ d σ1 e1 δ h c _ r fun h1 c1 r1 ch1 => ?_
  dsimp only at e
  split at e
  · cases e
    exact ⟨_, rfl, q h1 c1 _ r1 ch1 fun _ _ _ _ _ _ _ _ => trivial⟩
  · cases e
end

/-! ### sorted -/
theorem sorted_eq {α : Type} {r : α → α → Prop} (anti : ∀ a b, r a b → r b a → a = b) : ∀ {l1 l2 : List α}, l1.Perm l2 → l1.Pairwise r → l2.Pairwise r → l1 = l2
  | [], l2, p, _, _ => (List.nil_perm.mp p).symm
  | a :: t, [], p, _, _ => by cases List.perm_nil.mp p
  | a :: t, b :: s, p, h1, h2 => by
    have e : a = b := by
      have ha : a ∈ b :: s := p.subset (List.mem_cons_self ..)
      have hb : b ∈ a :: t := p.symm.subset (List.mem_cons_self ..)
      rcases List.mem_cons.mp ha with z | z
      · exact z
      rcases List.mem_cons.mp hb with y | y
      · exact y.symm
      exact anti a b ((List.pairwise_cons.mp h1).1 b y) ((List.pairwise_cons.mp h2).1 a z)
    subst e
    rw [sorted_eq anti p.cons_inv (List.pairwise_cons.mp h1).2 (List.pairwise_cons.mp h2).2]
def sortS (ss : List Str) : List Str := ss.mergeSort fun a b => !decide (ltS b a)
def sortI (ns : List Int) : List Int := ns.mergeSort fun a b => decide (a ≤ b)
def sortF (es : List D) : List D := es.mergeSort fun a b => !decide (ltS (firstS b) (firstS a))
theorem sortS_perm (ss : List Str) : (sortS ss).Perm ss := List.mergeSort_perm ..
theorem sortI_perm (ss : List Int) : (sortI ss).Perm ss := List.mergeSort_perm ..
theorem sortF_perm (ss : List D) : (sortF ss).Perm ss := List.mergeSort_perm ..
theorem nle_trans (a b c : Str) (h1 : (!decide (ltS b a)) = true) (h2 : (!decide (ltS c b)) = true) : (!decide (ltS c a)) = true := by
  simp only [Bool.not_eq_true', decide_eq_false_iff_not] at h1 h2 ⊢
  exact nlt_trans h1 h2
theorem nle_total (a b : Str) : ((!decide (ltS b a)) || (!decide (ltS a b))) = true := by
  simp only [Bool.or_eq_true, Bool.not_eq_true', decide_eq_false_iff_not]
  by_cases h : ltS b a
  · right
    exact fun z => ltS_irrefl _ (ltS_trans h z)
  · exact Or.inl h
theorem sortS_up (ss : List Str) : upTx (sortS ss) := by
  have := List.pairwise_mergeSort (le := fun a b : Str => !decide (ltS b a)) nle_trans nle_total ss
  exact this.imp fun h => by simpa using h
theorem sortI_up (ss : List Int) : (sortI ss).Pairwise (· ≤ ·) := by
  have := List.pairwise_mergeSort (le := fun a b : Int => decide (a ≤ b)) (fun a b c h1 h2 => by simp only [decide_eq_true_eq] at *; omega) (fun a b => by simp only [Bool.or_eq_true, decide_eq_true_eq]; omega) ss
  exact this.imp fun h => by simpa using h
theorem sortF_up {es : List D} (nd : (es.map firstS).Nodup) : (sortF es).Pairwise fun a b => ltS (firstS a) (firstS b) := by
  have := List.pairwise_mergeSort (le := fun a b : D => !decide (ltS (firstS b) (firstS a))) (fun a b c h1 h2 => nle_trans _ _ _ h1 h2) (fun a b => nle_total _ _) es
  have nd2 : ((sortF es).map firstS).Nodup := ((sortF_perm es).map firstS).nodup_iff.mpr nd
  have nd3 : (sortF es).Pairwise fun a b => firstS a ≠ firstS b := List.pairwise_map.mp nd2
  exact (this.and nd3).imp fun h => by
    obtain ⟨h1, h2⟩ := h
    simp only [Bool.not_eq_true', decide_eq_false_iff_not] at h1
    exact ltS_total h1 fun z => h2 z.symm
def okF : D → Bool
  | .tup (.str _ :: _) => true
  | _ => false
noncomputable def gSorted : G1 := fun x => match sqv [] x with
  | some (k, es) => if k = true ∧ (asStrs es).isSome = true ∧ es.length < 64 then (asStrs es).map fun ss => .lst ((sortS ss).map D.str)
    else if k = true ∧ (asInts es).isSome = true then (asInts es).map fun ns => .lst ((sortI ns).map D.int)
    else if es.length < 64 ∧ (∀ e ∈ es, okF e = true) ∧ (es.map firstS).Nodup then some (.lst (sortF es)) else none
  | none => none
theorem ba_sorted : Ba1 fSorted gSorted := by
  intro a a' r h R e va q
  unfold gSorted at e
  split at e
  · rename_i k es e1
    have g1 := va.sqv e1
    refine ⟨a', k, es, rfl, g1, ?_⟩
    split at e
    · rename_i z
      obtain ⟨ss, e2, e3⟩ := map_some e
      subst e3
      have := asStrs_ok e2
      subst this
      refine Or.inl ⟨z.1, ss, rfl, by simpa using z.2.2, fun ts p u => ?_⟩
      rw [sorted_eq (r := fun a b => ¬ ltS b a) (fun a b x y => Classical.byContradiction fun n => y (ltS_total x fun z => n z.symm)) (p.trans (sortS_perm ss).symm) u (sortS_up ss)]
      exact q
    · split at e
      · rename_i z
        obtain ⟨ss, e2, e3⟩ := map_some e
        subst e3
        have := asInts_ok e2
        subst this
        refine Or.inr (Or.inl ⟨z.1, ss, rfl, fun ts p u => ?_⟩)
        rw [sorted_eq (r := fun a b : Int => a ≤ b) (fun a b x y => by omega) (p.trans (sortI_perm ss).symm) u (sortI_up ss)]
        exact q
      · split at e
        · rename_i z
          cases e
          refine Or.inr (Or.inr ⟨z.1, fun e he => ?_, z.2.2, fun fs p u => ?_⟩)
          · have := z.2.1 e he
            unfold okF at this
            split at this
            · exact ⟨_, _, rfl⟩
            · cases this
          · rw [sorted_eq (r := fun a b => ltS (firstS a) (firstS b)) (fun a b x y => absurd (ltS_trans x y) (ltS_irrefl _)) (p.trans (sortF_perm es).symm) u (sortF_up z.2.2)]
            exact q
        · cases e
  · cases e

/-! ### a law's end -/
theorem v_law {N : List Str} {m : Nat} {t : TDS} {x : XS} (s : SS [] t x) (hm : N.length = m) (law : ∀ ns : List Int, ns.length ≤ 63 → ∃ ws', runF m [] x [.v (.scr (ns.map D.int))] = some (.v (.bl true), ws')) :
    ∀ ds h (R : DK) (RE : DX), okOs h.length h → okRs h.length ds → spLaw ds h R RE → t { nx := fun _ h' => Ret R h.length .non h', rt := Ret R h.length } (startD N ds) h := by
  rintro ds h R RE k1 k2 ⟨ns, rfl, rfl, hl, q⟩
  obtain ⟨ws', e⟩ := law ns hl
  have dn : ∀ (d : D) (h' : OS), d = .bl true → Ret R 0 d h' := fun d h' z => by
    subst z
    exact Or.inr ⟨[], h', rfl, Nat.le_refl _, trivial, Or.inl ⟨trivial, q⟩⟩
  have r : RpL [] [.v (.scr (ns.map D.int))] [.scr (ns.map D.int)] (fun _ => none) := ⟨rfl, fun k w ek => by
    cases k with
    | zero =>
      cases ek
      exact ⟨_, rfl, rfl⟩
    | succ k => cases ek⟩
  unfold runF at e
  obtain ⟨o, e1, e⟩ := bind_some e
  refine s _ o e1 (startD N _) [] (fun _ => none) _ (start_rp r hm) ?_
  cases o with
  | nx σ =>
    obtain ⟨z, e2, e3⟩ := map_some e
    cases e3
  | rt w σ =>
    obtain ⟨z, e2, e3⟩ := map_some e
    cases e3
    exact fun d δ' h' c' S r' ch fx rp fr => dn d h' rp
  | bk σ => cases e
  | ct σ => cases e
end FL
end
section
/-! The value layer: stepping through functions. -/
namespace FL
open PySem PySem.Spec PyProof.Rows L2
open Classical

theorem v_weak {P P' : List Nat} {t : TDS} {x : XS} (hp : ∀ i ∈ P, i ∈ P') (a : SS P' t x) : SS P t x := fun σ o e δ h c E r q => by
  refine a σ o e δ h c E r ?_
  have fx : ∀ {δ δ' : DS}, Fix P' δ δ' → Fix P δ δ' := fun f i m => f i (hp i m)
  cases o with
  | nx σ => exact fun δ' h' c' r' ch f => q δ' h' c' r' ch (fx f)
  | rt w σ => exact fun d δ' h' c' S r' ch f rp fr => q d δ' h' c' S r' ch (fx f) rp fr
  | bk σ => exact fun δ' h' c' r' ch f => q δ' h' c' r' ch (fx f)
  | ct σ => exact fun δ' h' c' r' ch f => q δ' h' c' r' ch (fx f)


/-! ### what a function tells, as a formula -/
class K0 where
  k : Prop
class K1 (α : Type) where
  k : α → Prop
class K2 (α β : Type) where
  k : α → β → Prop
def W1 {α : Type} (o : Option α) [q : K1 α] : Prop := match o with
  | some a => q.k a
  | none => False
def WE {α β : Type} (o : Option (α × β)) [q : K2 α β] : Prop := match o with
  | some p => q.k p.1 p.2
  | none => False
def WO (o : Option (Option W)) [q : K1 W] : Prop := match o with
  | some (some w) => q.k w
  | _ => False
def WPv (w : W) [q : K1 D] : Prop := match w with
  | .v d => q.k d
  | _ => False
def WLs (w : W) [q : K1 (List D)] : Prop := match w with
  | .l ds => q.k ds
  | _ => False
def WQs (w : W) [q : K1 Qs] : Prop := match w with
  | .q qs => q.k qs
  | _ => False
def WB (d : D) [q : K1 Bool] : Prop := match d with
  | .bl b => q.k b
  | _ => False
def WN (d : D) [q : K1 Int] : Prop := match d with
  | .int b => q.k b
  | _ => False
def WI (c : Bool) [a : K0] [b : K0] : Prop := if c = true then a.k else b.k
def WC (P Q : Prop) : Prop := P ∧ Q
def WS (o : Option Out) [n : K1 VS] [r : K2 W VS] [b : K1 VS] [c : K1 VS] : Prop := match o with
  | some (.nx σ) => n.k σ
  | some (.rt w σ) => r.k w σ
  | some (.bk σ) => b.k σ
  | some (.ct σ) => c.k σ
  | none => False
section
variable {α β : Type} {o : Option α} {oe : Option (α × β)}
theorem W1.ex {Q : α → Prop} (h : W1 o (q := ⟨Q⟩)) : ∃ a, o = some a ∧ Q a := by
  cases o with
  | none => exact h.elim
  | some a => exact ⟨a, rfl, h⟩
theorem W1.mk {Q : α → Prop} {a : α} (e : o = some a) (q : Q a) : W1 o (q := ⟨Q⟩) := by
  rw [e]
  exact q
theorem WE.ex {Q : α → β → Prop} (h : WE oe (q := ⟨Q⟩)) : ∃ a b, oe = some (a, b) ∧ Q a b := by
  cases oe with
  | none => exact h.elim
  | some a => exact ⟨a.1, a.2, rfl, h⟩
theorem WE.mk {Q : α → β → Prop} {a : α} {b : β} (e : oe = some (a, b)) (q : Q a b) : WE oe (q := ⟨Q⟩) := by
  rw [e]
  exact q
theorem WS.ex {os : Option Out} {N : VS → Prop} {R : W → VS → Prop} {B C : VS → Prop} (h : WS os (n := ⟨N⟩) (r := ⟨R⟩) (b := ⟨B⟩) (c := ⟨C⟩)) : ∃ out, os = some out ∧ match out with
    | .nx σ => N σ
    | .rt w σ => R w σ
    | .bk σ => B σ
    | .ct σ => C σ := by
  cases os with
  | none => exact h.elim
  | some out =>
    refine ⟨out, rfl, ?_⟩
    cases out <;> exact h
theorem W1.mono {Q Q' : α → Prop} (h : W1 o (q := ⟨Q⟩)) (m : ∀ a, Q a → Q' a) : W1 o (q := ⟨Q'⟩) := by
  obtain ⟨a, e, q⟩ := h.ex
  exact W1.mk e (m a q)
theorem WE.mono {Q Q' : α → β → Prop} (h : WE oe (q := ⟨Q⟩)) (m : ∀ a b, Q a b → Q' a b) : WE oe (q := ⟨Q'⟩) := by
  obtain ⟨a, b, e, q⟩ := h.ex
  exact WE.mk e (m a b q)
theorem WS.mono {os : Option Out} {N N' : VS → Prop} {R R' : W → VS → Prop} {B B' C C' : VS → Prop} (h : WS os (n := ⟨N⟩) (r := ⟨R⟩) (b := ⟨B⟩) (c := ⟨C⟩)) (n : ∀ σ, N σ → N' σ) (r : ∀ w σ, R w σ → R' w σ) (b : ∀ σ, B σ → B' σ) (c : ∀ σ, C σ → C' σ) : WS os (n := ⟨N'⟩) (r := ⟨R'⟩) (b := ⟨B'⟩) (c := ⟨C'⟩) := by
  cases os with
  | none => exact h
  | some out =>
    cases out with
    | nx σ => exact n σ h
    | rt w σ => exact r w σ h
    | bk σ => exact b σ h
    | ct σ => exact c σ h
end
abbrev No1 : VS → Prop := fun _ => False
section
variable {σ σ' : VS} {i j : Nat} {w : W} {d a b : D} {Q : D → VS → Prop} {QW : W → VS → Prop} {QT : Bool → VS → Prop} {QA : List D → VS → Prop} {xa xb xc : XE} {xf : XF} {g g' : G2} {g1 : G1} {y y' : XT} {ys : XA} {x x' : XS} {N : VS → Prop} {R : W → VS → Prop} {B C : VS → Prop}
theorem e_O {Q : W → Prop} : WO (some (some w)) (q := ⟨Q⟩) = Q w := rfl
theorem e_pv {Q : D → Prop} : WPv (.v d) (q := ⟨Q⟩) = Q d := rfl
theorem e_ls {ds : List D} {Q : List D → Prop} : WLs (.l ds) (q := ⟨Q⟩) = Q ds := rfl
theorem e_qs {qs : Qs} {Q : Qs → Prop} : WQs (.q qs) (q := ⟨Q⟩) = Q qs := rfl
theorem e_bl {c : Bool} {Q : Bool → Prop} : WB (.bl c) (q := ⟨Q⟩) = Q c := rfl
theorem e_nt {k : Int} {Q : Int → Prop} : WN (.int k) (q := ⟨Q⟩) = Q k := rfl
theorem e_T {A B : Prop} : WI true (a := ⟨A⟩) (b := ⟨B⟩) = A := rfl
theorem e_F {A B : Prop} : WI false (a := ⟨A⟩) (b := ⟨B⟩) = B := rfl
theorem e_CT {A : Prop} : WC True A = A := propext ⟨fun h => h.2, fun h => ⟨trivial, h⟩⟩
theorem wc {P Q : Prop} (h : P) (q : Q) : WC P Q := ⟨h, q⟩
theorem wi {p : Prop} [Decidable p] {A B : Prop} (h1 : p → A) (h2 : ¬ p → B) : WI (decide p) (a := ⟨A⟩) (b := ⟨B⟩) := by
  unfold WI
  by_cases z : p
  · rw [if_pos (decide_eq_true z)]
    exact h1 z
  · rw [if_neg (by simp [z])]
    exact h2 z
theorem win {p : Prop} [Decidable p] {A B : Prop} (h1 : ¬ p → A) (h2 : p → B) : WI (!decide p) (a := ⟨A⟩) (b := ⟨B⟩) := by
  unfold WI
  by_cases z : p
  · rw [if_neg (by simp [z])]
    exact h2 z
  · rw [if_pos (by simp [z])]
    exact h1 z
theorem wib {c : Bool} {A B : Prop} (h1 : c = true → A) (h2 : c = false → B) : WI c (a := ⟨A⟩) (b := ⟨B⟩) := by
  cases c with
  | true => exact h1 rfl
  | false => exact h2 rfl
/-- both ways meet -/
theorem WI.join {c : Bool} {A B A' : Prop} (h : WI c (a := ⟨A⟩) (b := ⟨B⟩)) (h1 : A → A') (h2 : B → A') : A' := by
  cases c with
  | true => exact h1 h
  | false => exact h2 h
theorem e_var : WE (xVar i σ) (q := ⟨Q⟩) = WO σ[i]? (q := ⟨fun w => WPv w (q := ⟨fun d => Q d σ⟩)⟩) := by
  unfold xVar
  cases σ[i]? with
  | none => rfl
  | some u =>
    cases u with
    | none => rfl
    | some w => cases w <;> rfl
theorem e_rd : WE (xRd i σ) (q := ⟨Q⟩) = WO σ[i]? (q := ⟨fun w => W1 w.vo (q := ⟨fun x => Q x σ⟩)⟩) := by
  unfold xRd
  cases σ[i]? with
  | none => rfl
  | some u =>
    cases u with
    | none => rfl
    | some w =>
      show WE (w.vo.map fun d => (d, σ)) (q := ⟨Q⟩) = W1 w.vo (q := _)
      cases w.vo <;> rfl
theorem e_mv : WE (xMv i σ) (q := ⟨QW⟩) = WO σ[i]? (q := ⟨fun w => QW w (σ.set i none)⟩) := by
  unfold xMv
  cases σ[i]? with
  | none => rfl
  | some u => cases u <;> rfl
theorem e_c : WE (xC d σ) (q := ⟨Q⟩) = Q d σ := rfl
theorem e_xV : WE (xV xa σ) (q := ⟨QW⟩) = WE (xa σ) (q := ⟨fun d σ1 => QW (.v d) σ1⟩) := by
  unfold xV
  cases xa σ <;> rfl
theorem e_xD : WE (xD xf σ) (q := ⟨Q⟩) = WE (xf σ) (q := ⟨fun w σ1 => W1 w.vo (q := ⟨fun x => Q x σ1⟩)⟩) := by
  unfold xD
  cases xf σ with
  | none => rfl
  | some p =>
    show WE (p.1.vo.map fun d => (d, p.2)) (q := ⟨Q⟩) = W1 p.1.vo (q := _)
    cases p.1.vo <;> rfl
theorem e_xP : WE (xP xf σ) (q := ⟨Q⟩) = WE (xf σ) (q := ⟨fun w σ1 => WPv w (q := ⟨fun d => Q d σ1⟩)⟩) := by
  unfold xP
  cases xf σ with
  | none => rfl
  | some p =>
    obtain ⟨w, σ1⟩ := p
    cases w <;> rfl
theorem e_op : WE (xOp g xa xb σ) (q := ⟨Q⟩) = WE (xa σ) (q := ⟨fun a σ1 => WE (xb σ1) (q := ⟨fun b σ2 => W1 (g a b) (q := ⟨fun r => Q r σ2⟩)⟩)⟩) := by
  unfold xOp
  cases xa σ with
  | none => rfl
  | some p =>
    show WE ((xb p.2).bind _) (q := ⟨Q⟩) = WE (xb p.2) (q := _)
    cases xb p.2 with
    | none => rfl
    | some q =>
      show WE ((g p.1 q.1).map _) (q := ⟨Q⟩) = W1 (g p.1 q.1) (q := _)
      cases g p.1 q.1 <;> rfl
theorem e_opF : WE (xOpF g xf xb σ) (q := ⟨Q⟩) = WE (xf σ) (q := ⟨fun a σ1 => WE (xb σ1) (q := ⟨fun b σ2 => W1 a.vo (q := ⟨fun x => W1 (g x b) (q := ⟨fun r => Q r σ2⟩)⟩)⟩)⟩) := by
  unfold xOpF
  cases xf σ with
  | none => rfl
  | some p =>
    show WE ((xb p.2).bind _) (q := ⟨Q⟩) = WE (xb p.2) (q := _)
    cases xb p.2 with
    | none => rfl
    | some q =>
      show WE (p.1.vo.bind _) (q := ⟨Q⟩) = W1 p.1.vo (q := _)
      cases p.1.vo with
      | none => rfl
      | some x =>
        show WE ((g x q.1).map _) (q := ⟨Q⟩) = W1 (g x q.1) (q := _)
        cases g x q.1 <;> rfl
theorem e_opP : WE (xOpP g i xb σ) (q := ⟨Q⟩) = WO σ[i]? (q := ⟨fun _ => WE (xb σ) (q := ⟨fun b σ2 => WO σ2[i]? (q := ⟨fun w => W1 w.vo (q := ⟨fun x => W1 (g x b) (q := ⟨fun r => Q r σ2⟩)⟩)⟩)⟩)⟩) := by
  unfold xOpP
  cases σ[i]? with
  | none => rfl
  | some u =>
    cases u with
    | none => rfl
    | some w =>
      show WE ((xb σ).bind _) (q := ⟨Q⟩) = WE (xb σ) (q := _)
      cases xb σ with
      | none => rfl
      | some q =>
        obtain ⟨q1, q2⟩ := q
        show WE (match q2[i]? with | some (some w) => w.vo.bind fun x => (g x q1).map fun r => (r, q2) | _ => none) (q := ⟨Q⟩) = WO q2[i]? (q := _)
        cases q2[i]? with
        | none => rfl
        | some v =>
          cases v with
          | none => rfl
          | some w2 =>
            show WE (w2.vo.bind _) (q := ⟨Q⟩) = W1 w2.vo (q := _)
            cases w2.vo with
            | none => rfl
            | some x =>
              show WE ((g x q1).map _) (q := ⟨Q⟩) = W1 (g x q1) (q := _)
              cases g x q1 <;> rfl
theorem e_un : WE (xUn g1 xa σ) (q := ⟨Q⟩) = WE (xa σ) (q := ⟨fun a σ1 => W1 (g1 a) (q := ⟨fun r => Q r σ1⟩)⟩) := by
  unfold xUn
  cases xa σ with
  | none => rfl
  | some p =>
    show WE ((g1 p.1).map _) (q := ⟨Q⟩) = W1 (g1 p.1) (q := _)
    cases g1 p.1 <;> rfl
theorem e_b : WE (xB xa σ) (q := ⟨QT⟩) = WE (xa σ) (q := ⟨fun a σ1 => WB a (q := ⟨fun c => QT c σ1⟩)⟩) := by
  unfold xB
  cases xa σ with
  | none => rfl
  | some p =>
    obtain ⟨d, σ1⟩ := p
    cases d <;> rfl
theorem e_yes : WE (xYes σ) (q := ⟨QT⟩) = QT true σ := rfl
theorem e_and : WE (xAnd y y' σ) (q := ⟨QT⟩) = WE (y σ) (q := ⟨fun c σ1 => WI c (a := ⟨(WE (y' σ1) (q := ⟨QT⟩))⟩) (b := ⟨(QT false σ1)⟩)⟩) := by
  unfold xAnd
  cases y σ with
  | none => rfl
  | some p =>
    obtain ⟨c, σ1⟩ := p
    cases c <;> rfl
theorem e_or : WE (xOr y y' σ) (q := ⟨QT⟩) = WE (y σ) (q := ⟨fun c σ1 => WI c (a := ⟨(QT true σ1)⟩) (b := ⟨(WE (y' σ1) (q := ⟨QT⟩))⟩)⟩) := by
  unfold xOr
  cases y σ with
  | none => rfl
  | some p =>
    obtain ⟨c, σ1⟩ := p
    cases c <;> rfl
theorem e_not : WE (xNot y σ) (q := ⟨QT⟩) = WE (y σ) (q := ⟨fun c σ1 => QT (!c) σ1⟩) := by
  unfold xNot
  cases y σ <;> rfl
theorem e_if : WE (xIf y xa xb σ) (q := ⟨Q⟩) = WE (y σ) (q := ⟨fun c σ1 => WI c (a := ⟨(WE (xa σ1) (q := ⟨Q⟩))⟩) (b := ⟨(WE (xb σ1) (q := ⟨Q⟩))⟩)⟩) := by
  unfold xIf
  cases y σ with
  | none => rfl
  | some p =>
    obtain ⟨c, σ1⟩ := p
    cases c <;> rfl
theorem e_andV : WE (xAndV xa xb σ) (q := ⟨Q⟩) = WE (xa σ) (q := ⟨fun a σ1 => WB a (q := ⟨fun c => WI c (a := ⟨(WE (xb σ1) (q := ⟨Q⟩))⟩) (b := ⟨(Q (.bl false) σ1)⟩)⟩)⟩) := by
  unfold xAndV xB
  cases xa σ with
  | none => rfl
  | some p =>
    obtain ⟨d, σ1⟩ := p
    cases d <;> first | rfl | skip
    rename_i c
    cases c <;> rfl
theorem e_orV : WE (xOrV xa xb σ) (q := ⟨Q⟩) = WE (xa σ) (q := ⟨fun a σ1 => WB a (q := ⟨fun c => WI c (a := ⟨(Q (.bl true) σ1)⟩) (b := ⟨(WE (xb σ1) (q := ⟨Q⟩))⟩)⟩)⟩) := by
  unfold xOrV xB
  cases xa σ with
  | none => rfl
  | some p =>
    obtain ⟨d, σ1⟩ := p
    cases d <;> first | rfl | skip
    rename_i c
    cases c <;> rfl
theorem e_notV : WE (xNotV xa σ) (q := ⟨Q⟩) = WE (xa σ) (q := ⟨fun a σ1 => WB a (q := ⟨fun c => Q (.bl (!c)) σ1⟩)⟩) := by
  unfold xNotV xB
  cases xa σ with
  | none => rfl
  | some p =>
    obtain ⟨d, σ1⟩ := p
    cases d <;> rfl
theorem e_chain : WE (xChain g g' xa xb xc σ) (q := ⟨Q⟩) = WE (xa σ) (q := ⟨fun a σ1 => WE (xb σ1) (q := ⟨fun b σ2 => W1 (g a b) (q := ⟨fun r => WB r (q := ⟨fun c => WI c (a := ⟨(WE (xc σ2) (q := ⟨fun s σ3 => W1 (g' b s) (q := ⟨fun r' => Q r' σ3⟩)⟩))⟩) (b := ⟨(Q (.bl false) σ2)⟩)⟩)⟩)⟩)⟩) := by
  unfold xChain
  cases xa σ with
  | none => rfl
  | some p =>
    show WE ((xb p.2).bind _) (q := ⟨Q⟩) = WE (xb p.2) (q := _)
    cases xb p.2 with
    | none => rfl
    | some q =>
      obtain ⟨q1, q2⟩ := q
      show WE (match g p.1 q1 with | some (.bl true) => (xc q2).bind fun s => (g' q1 s.1).map fun r => (r, s.2) | some (.bl false) => some (.bl false, q2) | _ => none) (q := ⟨Q⟩) = W1 (g p.1 q1) (q := _)
      cases g p.1 q1 with
      | none => rfl
      | some r =>
        cases r <;> first | rfl | skip
        rename_i c
        cases c with
        | false => rfl
        | true =>
          show WE ((xc q2).bind _) (q := ⟨Q⟩) = WE (xc q2) (q := _)
          cases xc q2 with
          | none => rfl
          | some s =>
            show WE ((g' q1 s.1).map _) (q := ⟨Q⟩) = W1 (g' q1 s.1) (q := _)
            cases g' q1 s.1 <;> rfl
theorem e_nil : WE (xNil σ) (q := ⟨QA⟩) = QA [] σ := rfl
theorem e_cons : WE (xCons xa ys σ) (q := ⟨QA⟩) = WE (xa σ) (q := ⟨fun a σ1 => WE (ys σ1) (q := ⟨fun l σ2 => QA (a :: l) σ2⟩)⟩) := by
  unfold xCons
  cases xa σ with
  | none => rfl
  | some p =>
    show WE ((ys p.2).map _) (q := ⟨QA⟩) = WE (ys p.2) (q := _)
    cases ys p.2 <;> rfl
theorem ite_wc {P : Prop} [Decidable P] {α β : Type} {p : α × β} {K : α → β → Prop} : WE (if P then some p else none) (q := ⟨K⟩) = WC P (K p.1 p.2) := by
  by_cases z : P
  · rw [if_pos z]
    exact propext ⟨fun h => ⟨z, h⟩, fun h => h.2⟩
  · rw [if_neg z]
    exact propext ⟨fun h => h.elim, fun h => z h.1⟩
theorem ite_w1 {P : Prop} [Decidable P] {α : Type} {p : α} {K : α → Prop} : W1 (if P then some p else none) (q := ⟨K⟩) = WC P (K p) := by
  by_cases z : P
  · rw [if_pos z]
    exact propext ⟨fun h => ⟨z, h⟩, fun h => h.2⟩
  · rw [if_neg z]
    exact propext ⟨fun h => h.elim, fun h => z h.1⟩
theorem e_tup : WE (xTup ys σ) (q := ⟨Q⟩) = WE (ys σ) (q := ⟨fun l σ1 => WC (l.length ≤ 16777216) (Q (.tup l) σ1)⟩) := by
  unfold xTup
  cases ys σ with
  | none => rfl
  | some p => exact ite_wc
theorem e_lst : WE (xLst ys σ) (q := ⟨Q⟩) = WE (ys σ) (q := ⟨fun l σ1 => WC (l.length ≤ 16777216) (Q (.lst l) σ1)⟩) := by
  unfold xLst
  cases ys σ with
  | none => rfl
  | some p => exact ite_wc
theorem e_lstN : WE (xLstN ys σ) (q := ⟨QW⟩) = WE (ys σ) (q := ⟨fun l σ1 => WC (l.length ≤ 16777216) (QW (.l l) σ1)⟩) := by
  unfold xLstN
  cases ys σ with
  | none => rfl
  | some p => exact ite_wc
theorem e_dnew : WE (xDNew σ) (q := ⟨QW⟩) = QW (.q []) σ := rfl
theorem e_no {QO : Option Int → VS → Prop} : WE (xNo σ) (q := ⟨QO⟩) = QO none σ := rfl
theorem e_pt {QO : Option Int → VS → Prop} : WE (xPt xa σ) (q := ⟨QO⟩) = WE (xa σ) (q := ⟨fun a σ1 => WN a (q := ⟨fun k => QO (some k) σ1⟩)⟩) := by
  unfold xPt
  cases xa σ with
  | none => rfl
  | some p =>
    obtain ⟨d, σ1⟩ := p
    cases d <;> rfl
theorem e_sl {xl xh : XO} : WE (xSl xa xl xh σ) (q := ⟨Q⟩) = WE (xa σ) (q := ⟨fun a σ1 => WE (xl σ1) (q := ⟨fun lo σ2 => WE (xh σ2) (q := ⟨fun hi σ3 => W1 (gCut a lo hi) (q := ⟨fun r => Q r σ3⟩)⟩)⟩)⟩) := by
  unfold xSl
  cases xa σ with
  | none => rfl
  | some p =>
    show WE ((xl p.2).bind _) (q := ⟨Q⟩) = WE (xl p.2) (q := _)
    cases xl p.2 with
    | none => rfl
    | some q =>
      show WE ((xh q.2).bind _) (q := ⟨Q⟩) = WE (xh q.2) (q := _)
      cases xh q.2 with
      | none => rfl
      | some s =>
        show WE ((gCut p.1 q.1 s.1).map _) (q := ⟨Q⟩) = W1 (gCut p.1 q.1 s.1) (q := _)
        cases gCut p.1 q.1 s.1 <;> rfl
theorem e_slF {xl xh : XO} : WE (xSlF xf xl xh σ) (q := ⟨Q⟩) = WE (xf σ) (q := ⟨fun a σ1 => WE (xl σ1) (q := ⟨fun lo σ2 => WE (xh σ2) (q := ⟨fun hi σ3 => W1 a.vo (q := ⟨fun x => W1 (gCut x lo hi) (q := ⟨fun r => Q r σ3⟩)⟩)⟩)⟩)⟩) := by
  unfold xSlF
  cases xf σ with
  | none => rfl
  | some p =>
    show WE ((xl p.2).bind _) (q := ⟨Q⟩) = WE (xl p.2) (q := _)
    cases xl p.2 with
    | none => rfl
    | some q =>
      show WE ((xh q.2).bind _) (q := ⟨Q⟩) = WE (xh q.2) (q := _)
      cases xh q.2 with
      | none => rfl
      | some s =>
        show WE (p.1.vo.bind _) (q := ⟨Q⟩) = W1 p.1.vo (q := _)
        cases p.1.vo with
        | none => rfl
        | some x =>
          show WE ((gCut x q.1 s.1).map _) (q := ⟨Q⟩) = W1 (gCut x q.1 s.1) (q := _)
          cases gCut x q.1 s.1 <;> rfl
theorem e_slP {xl xh : XO} : WE (xSlP i xl xh σ) (q := ⟨Q⟩) = WO σ[i]? (q := ⟨fun _ => WE (xl σ) (q := ⟨fun lo σ2 => WE (xh σ2) (q := ⟨fun hi σ3 => WO σ3[i]? (q := ⟨fun w => W1 w.vo (q := ⟨fun x => W1 (gCut x lo hi) (q := ⟨fun r => Q r σ3⟩)⟩)⟩)⟩)⟩)⟩) := by
  unfold xSlP
  cases σ[i]? with
  | none => rfl
  | some u =>
    cases u with
    | none => rfl
    | some w =>
      show WE ((xl σ).bind _) (q := ⟨Q⟩) = WE (xl σ) (q := _)
      cases xl σ with
      | none => rfl
      | some q =>
        show WE ((xh q.2).bind _) (q := ⟨Q⟩) = WE (xh q.2) (q := _)
        cases xh q.2 with
        | none => rfl
        | some s =>
          obtain ⟨s1, s2⟩ := s
          show WE (match s2[i]? with | some (some w) => w.vo.bind fun x => (gCut x q.1 s1).map fun r => (r, s2) | _ => none) (q := ⟨Q⟩) = WO s2[i]? (q := _)
          cases s2[i]? with
          | none => rfl
          | some v =>
            cases v with
            | none => rfl
            | some w2 =>
              show WE (w2.vo.bind _) (q := ⟨Q⟩) = W1 w2.vo (q := _)
              cases w2.vo with
              | none => rfl
              | some x =>
                show WE ((gCut x q.1 s1).map _) (q := ⟨Q⟩) = W1 (gCut x q.1 s1) (q := _)
                cases gCut x q.1 s1 <;> rfl
theorem e_slN : WE (xSlN xa σ) (q := ⟨QW⟩) = WE (xa σ) (q := ⟨fun a σ1 => W1 (lsv [] a) (q := ⟨fun ds => QW (.l ds) σ1⟩)⟩) := by
  unfold xSlN
  cases xa σ with
  | none => rfl
  | some p =>
    obtain ⟨d, σ1⟩ := p
    cases d <;> rfl
theorem e_lsv {ds : List D} {K : List D → Prop} : W1 (lsv [] (.lst ds)) (q := ⟨K⟩) = K ds := rfl
theorem e_get {xy xz : XE} : WE (xGet i xy xz σ) (q := ⟨Q⟩) = WO σ[i]? (q := ⟨fun w0 => W1 w0.vo (q := ⟨fun x0 => WC ((dcv [] x0).isSome = true) (WE (xy σ) (q := ⟨fun a σ1 => WE (xz σ1) (q := ⟨fun b σ2 => WO σ2[i]? (q := ⟨fun w => W1 w.vo (q := ⟨fun x => W1 (gGet x a b) (q := ⟨fun r => Q r σ2⟩)⟩)⟩)⟩)⟩))⟩)⟩) := by
  unfold xGet
  cases σ[i]? with
  | none => rfl
  | some u =>
    cases u with
    | none => rfl
    | some w =>
      show WE (w.vo.bind _) (q := ⟨Q⟩) = W1 w.vo (q := _)
      cases w.vo with
      | none => rfl
      | some x0 =>
        show WE (if (dcv [] x0).isSome = true then _ else none) (q := ⟨Q⟩) = WC _ _
        by_cases z : (dcv [] x0).isSome = true
        · rw [if_pos z]
          have e : ∀ P : Prop, WC ((dcv [] x0).isSome = true) P = P := fun P => propext ⟨fun h => h.2, fun h => ⟨z, h⟩⟩
          rw [e]
          show WE ((xy σ).bind _) (q := ⟨Q⟩) = WE (xy σ) (q := _)
          cases xy σ with
          | none => rfl
          | some q =>
            show WE ((xz q.2).bind _) (q := ⟨Q⟩) = WE (xz q.2) (q := _)
            cases xz q.2 with
            | none => rfl
            | some s =>
              obtain ⟨s1, s2⟩ := s
              show WE (match s2[i]? with | some (some w) => w.vo.bind fun x => (gGet x q.1 s1).map fun r => (r, s2) | _ => none) (q := ⟨Q⟩) = WO s2[i]? (q := _)
              cases s2[i]? with
              | none => rfl
              | some v =>
                cases v with
                | none => rfl
                | some w2 =>
                  show WE (w2.vo.bind _) (q := ⟨Q⟩) = W1 w2.vo (q := _)
                  cases w2.vo with
                  | none => rfl
                  | some x =>
                    show WE ((gGet x q.1 s1).map _) (q := ⟨Q⟩) = W1 (gGet x q.1 s1) (q := _)
                    cases gGet x q.1 s1 <;> rfl
        · rw [if_neg z]
          exact propext ⟨fun h => h.elim, fun h => z h.1⟩
theorem e_app : WE (xApp j xa σ) (q := ⟨Q⟩) = WO σ[j]? (q := ⟨fun w0 => WLs w0 (q := ⟨fun _ => WE (xa σ) (q := ⟨fun a σ1 => WO σ1[j]? (q := ⟨fun w => WLs w (q := ⟨fun ds => WC (ds.length < 16777216) (Q .non (σ1.set j (some (.l (ds ++ [a])))))⟩)⟩)⟩)⟩)⟩) := by
  unfold xApp
  cases σ[j]? with
  | none => rfl
  | some u =>
    cases u with
    | none => rfl
    | some w =>
      cases w <;> first | rfl | skip
      show WE ((xa σ).bind _) (q := ⟨Q⟩) = WE (xa σ) (q := _)
      cases xa σ with
      | none => rfl
      | some q =>
        obtain ⟨q1, q2⟩ := q
        show WE (match q2[j]? with | some (some (.l ds)) => if ds.length < 16777216 then some (D.non, q2.set j (some (.l (ds ++ [q1])))) else none | _ => none) (q := ⟨Q⟩) = WO q2[j]? (q := _)
        cases q2[j]? with
        | none => rfl
        | some v =>
          cases v with
          | none => rfl
          | some w2 =>
            cases w2 <;> first | rfl | exact ite_wc
/-! statements -/
theorem e_next : WS (xNext σ) (n := ⟨N⟩) (r := ⟨R⟩) (b := ⟨B⟩) (c := ⟨C⟩) = N σ := rfl
theorem e_break : WS (xBreak σ) (n := ⟨N⟩) (r := ⟨R⟩) (b := ⟨B⟩) (c := ⟨C⟩) = B σ := rfl
theorem e_cont : WS (xCont σ) (n := ⟨N⟩) (r := ⟨R⟩) (b := ⟨B⟩) (c := ⟨C⟩) = C σ := rfl
theorem e_seq : WS (xSeq x x' σ) (n := ⟨N⟩) (r := ⟨R⟩) (b := ⟨B⟩) (c := ⟨C⟩) = WS (x σ) (n := ⟨(fun σ1 => WS (x' σ1) (n := ⟨N⟩) (r := ⟨R⟩) (b := ⟨B⟩) (c := ⟨C⟩))⟩) (r := ⟨R⟩) (b := ⟨B⟩) (c := ⟨C⟩) := by
  unfold xSeq
  cases x σ with
  | none => rfl
  | some o => cases o <;> rfl
theorem e_drop : WS (xDrop xa σ) (n := ⟨N⟩) (r := ⟨R⟩) (b := ⟨B⟩) (c := ⟨C⟩) = WE (xa σ) (q := ⟨fun _ σ1 => N σ1⟩) := by
  unfold xDrop
  cases xa σ <;> rfl
theorem e_dropF : WS (xDropF xf σ) (n := ⟨N⟩) (r := ⟨R⟩) (b := ⟨B⟩) (c := ⟨C⟩) = WE (xf σ) (q := ⟨fun _ σ1 => N σ1⟩) := by
  unfold xDropF
  cases xf σ <;> rfl
theorem e_ret : WS (xRet xf σ) (n := ⟨N⟩) (r := ⟨R⟩) (b := ⟨B⟩) (c := ⟨C⟩) = WE (xf σ) (q := ⟨R⟩) := by
  unfold xRet
  cases xf σ <;> rfl
theorem e_retN : WS (xRetN σ) (n := ⟨N⟩) (r := ⟨R⟩) (b := ⟨B⟩) (c := ⟨C⟩) = R (.v .non) σ := rfl
theorem e_ifS : WS (xIfS y x x' σ) (n := ⟨N⟩) (r := ⟨R⟩) (b := ⟨B⟩) (c := ⟨C⟩) = WE (y σ) (q := ⟨fun c σ1 => WI c (a := ⟨(WS (x σ1) (n := ⟨N⟩) (r := ⟨R⟩) (b := ⟨B⟩) (c := ⟨C⟩))⟩) (b := ⟨(WS (x' σ1) (n := ⟨N⟩) (r := ⟨R⟩) (b := ⟨B⟩) (c := ⟨C⟩))⟩)⟩) := by
  unfold xIfS
  cases y σ with
  | none => rfl
  | some p =>
    obtain ⟨c, σ1⟩ := p
    cases c <;> rfl
theorem e_asg {yg : YG} : WS (xAsg xa yg σ) (n := ⟨N⟩) (r := ⟨R⟩) (b := ⟨B⟩) (c := ⟨C⟩) = WE (xa σ) (q := ⟨fun a σ1 => W1 (yg a σ1) (q := ⟨N⟩)⟩) := by
  unfold xAsg
  cases xa σ with
  | none => rfl
  | some p =>
    show WS ((yg p.1 p.2).map _) (n := ⟨N⟩) (r := ⟨R⟩) (b := ⟨B⟩) (c := ⟨C⟩) = W1 (yg p.1 p.2) (q := ⟨N⟩)
    cases yg p.1 p.2 <;> rfl
theorem e_yN {N : VS → Prop} : W1 (yN i d σ) (q := ⟨N⟩) = N (σ.set i (some (.v d))) := rfl
theorem e_ysNil {N : VS → Prop} : W1 (ysNil [] σ) (q := ⟨N⟩) = N σ := rfl
theorem e_ysCons {yg : YG} {ygs : YGs} {ds : List D} : W1 (ysCons yg ygs (d :: ds) σ) (q := ⟨N⟩) = W1 (yg d σ) (q := ⟨fun σ1 => W1 (ygs ds σ1) (q := ⟨N⟩)⟩) := by
  show W1 ((yg d σ).bind _) (q := ⟨N⟩) = _
  cases yg d σ <;> rfl
theorem e_yT {ygs : YGs} {n : Nat} {ds : List D} : W1 (yT n ygs (.tup ds) σ) (q := ⟨N⟩) = WC (ds.length = n) (W1 (ygs ds σ) (q := ⟨N⟩)) := by
  show W1 (if ds.length = n then ygs ds σ else none) (q := ⟨N⟩) = _
  by_cases z : ds.length = n
  · rw [if_pos z]
    exact propext ⟨fun h => ⟨z, h⟩, fun h => h.2⟩
  · rw [if_neg z]
    exact propext ⟨fun h => h.elim, fun h => z h.1⟩
theorem e_asgF : WS (xAsgF xf i σ) (n := ⟨N⟩) (r := ⟨R⟩) (b := ⟨B⟩) (c := ⟨C⟩) = WE (xf σ) (q := ⟨fun w σ1 => N (σ1.set i (some w))⟩) := by
  unfold xAsgF
  cases xf σ <;> rfl
theorem e_par : WS (xPar i j ys σ) (n := ⟨N⟩) (r := ⟨R⟩) (b := ⟨B⟩) (c := ⟨C⟩) = WE (ys σ) (q := ⟨fun l σ1 => W1 l.head? (q := ⟨fun a => W1 l.tail.head? (q := ⟨fun b => WC (l.length = 2) (N ((σ1.set i (some (.v a))).set j (some (.v b))))⟩)⟩)⟩) := by
  unfold xPar
  cases ys σ with
  | none => rfl
  | some p =>
    obtain ⟨l, σ1⟩ := p
    match l with
    | [] => rfl
    | [a] => rfl
    | [a, b] => exact propext ⟨fun h => ⟨rfl, h⟩, fun h => h.2⟩
    | a :: b :: c :: r => exact propext ⟨fun h => h.elim, fun h => by have := h.1; simp at this⟩
theorem e_hd {α : Type} {a : α} {l : List α} {K : α → Prop} : W1 (a :: l).head? (q := ⟨K⟩) = K a := rfl
theorem e_aug {f : Int → Int → Int} : WS (xAug f i xa σ) (n := ⟨N⟩) (r := ⟨R⟩) (b := ⟨B⟩) (c := ⟨C⟩) = WO σ[i]? (q := ⟨fun w => WPv w (q := ⟨fun d => WN d (q := ⟨fun k => WE (xa σ) (q := ⟨fun a σ1 => WN a (q := ⟨fun m => N (σ1.set i (some (.v (.int (f k m)))))⟩)⟩)⟩)⟩)⟩) := by
  unfold xAug
  cases σ[i]? with
  | none => rfl
  | some u =>
    cases u with
    | none => rfl
    | some w =>
      cases w <;> first | rfl | skip
      rename_i d
      cases d <;> first | rfl | skip
      show WS ((xa σ).bind _) (n := ⟨N⟩) (r := ⟨R⟩) (b := ⟨B⟩) (c := ⟨C⟩) = WE (xa σ) (q := _)
      cases xa σ with
      | none => rfl
      | some p =>
        obtain ⟨d, σ1⟩ := p
        cases d <;> rfl
theorem e_setL {xi : XE} : WS (xSetL j xi xa σ) (n := ⟨N⟩) (r := ⟨R⟩) (b := ⟨B⟩) (c := ⟨C⟩) = WE (xa σ) (q := ⟨fun a σ1 => WO σ1[j]? (q := ⟨fun _ => WE (xi σ1) (q := ⟨fun k σ2 => WN k (q := ⟨fun m => WO σ2[j]? (q := ⟨fun w => WLs w (q := ⟨fun ds => W1 (ixN ds.length m) (q := ⟨fun n => N (σ2.set j (some (.l (ds.set n a))))⟩)⟩)⟩)⟩)⟩)⟩)⟩) := by
  unfold xSetL
  cases xa σ with
  | none => rfl
  | some p =>
    obtain ⟨a, σ1⟩ := p
    show WS (match σ1[j]? with | some (some _) => (xi σ1).bind (fun q => (match q.1, q.2[j]? with | .int k, some (some (.l ds)) => (ixN ds.length k).map (fun m => Out.nx (q.2.set j (some (.l (ds.set m a))))) | _, _ => none)) | _ => none) (n := ⟨N⟩) (r := ⟨R⟩) (b := ⟨B⟩) (c := ⟨C⟩) = WO σ1[j]? (q := _)
    cases σ1[j]? with
    | none => rfl
    | some u =>
      cases u with
      | none => rfl
      | some w =>
        show WS ((xi σ1).bind _) (n := ⟨N⟩) (r := ⟨R⟩) (b := ⟨B⟩) (c := ⟨C⟩) = WE (xi σ1) (q := _)
        cases xi σ1 with
        | none => rfl
        | some q =>
          obtain ⟨k, σ2⟩ := q
          cases k <;> first | rfl | skip
          rename_i m
          show WS (match D.int m, σ2[j]? with | .int k, some (some (.l ds)) => (ixN ds.length k).map fun m => Out.nx (σ2.set j (some (.l (ds.set m a)))) | _, _ => none) (n := ⟨N⟩) (r := ⟨R⟩) (b := ⟨B⟩) (c := ⟨C⟩) = WO σ2[j]? (q := _)
          cases σ2[j]? with
          | none => rfl
          | some v =>
            cases v with
            | none => rfl
            | some w2 =>
              cases w2 <;> first | rfl | skip
              rename_i ds
              show WS ((ixN ds.length m).map _) (n := ⟨N⟩) (r := ⟨R⟩) (b := ⟨B⟩) (c := ⟨C⟩) = W1 (ixN ds.length m) (q := _)
              cases ixN ds.length m <;> rfl
theorem e_dput {xk : XE} : WS (xDPut j xk xa σ) (n := ⟨N⟩) (r := ⟨R⟩) (b := ⟨B⟩) (c := ⟨C⟩) = WE (xa σ) (q := ⟨fun a σ1 => WO σ1[j]? (q := ⟨fun _ => WE (xk σ1) (q := ⟨fun k σ2 => W1 (keyD k) (q := ⟨fun kk => WO σ2[j]? (q := ⟨fun w => WQs w (q := ⟨fun qs => WC (qs.length < 16777216) (N (σ2.set j (some (.q (putQ qs kk a)))))⟩)⟩)⟩)⟩)⟩)⟩) := by
  unfold xDPut
  cases xa σ with
  | none => rfl
  | some p =>
    obtain ⟨a, σ1⟩ := p
    show WS (match σ1[j]? with | some (some _) => (xk σ1).bind (fun q => (match keyD q.1, q.2[j]? with | some k, some (some (.q qs)) => if qs.length < 16777216 then some (Out.nx (q.2.set j (some (.q (putQ qs k a))))) else none | _, _ => none)) | _ => none) (n := ⟨N⟩) (r := ⟨R⟩) (b := ⟨B⟩) (c := ⟨C⟩) = WO σ1[j]? (q := _)
    cases σ1[j]? with
    | none => rfl
    | some u =>
      cases u with
      | none => rfl
      | some w =>
        show WS ((xk σ1).bind _) (n := ⟨N⟩) (r := ⟨R⟩) (b := ⟨B⟩) (c := ⟨C⟩) = WE (xk σ1) (q := _)
        cases xk σ1 with
        | none => rfl
        | some q =>
          obtain ⟨k, σ2⟩ := q
          show WS (match keyD k, σ2[j]? with | some k, some (some (.q qs)) => if qs.length < 16777216 then some (Out.nx (σ2.set j (some (.q (putQ qs k a))))) else none | _, _ => none) (n := ⟨N⟩) (r := ⟨R⟩) (b := ⟨B⟩) (c := ⟨C⟩) = W1 (keyD k) (q := _)
          cases keyD k with
          | none => rfl
          | some kk =>
            show _ = WO σ2[j]? (q := _)
            cases σ2[j]? with
            | none => rfl
            | some v =>
              cases v with
              | none => rfl
              | some w2 =>
                cases w2 <;> first | rfl | skip
                rename_i qs
                show WS (if qs.length < 16777216 then _ else none) (n := ⟨N⟩) (r := ⟨R⟩) (b := ⟨B⟩) (c := ⟨C⟩) = WC _ _
                by_cases z : qs.length < 16777216
                · rw [if_pos z]
                  exact propext ⟨fun h => ⟨z, h⟩, fun h => h.2⟩
                · rw [if_neg z]
                  exact propext ⟨fun h => h.elim, fun h => z h.1⟩
theorem e_kS {s : Str} {K : Key → Prop} : W1 (keyD (.str s)) (q := ⟨K⟩) = K (Sum.inr s) := rfl
theorem e_kI {s : Int} {K : Key → Prop} : W1 (keyD (.int s)) (q := ⟨K⟩) = K (Sum.inl s) := rfl
/-! calls -/
theorem e_fn {n : Nat} {F : VF} {as : List Ar} : WE (xFn n F as σ) (q := ⟨QW⟩) = WE (evA as σ) (q := ⟨fun us σ1 => WC ((refsA us).Nodup ∧ us.length = n) (W1 (resA us σ1) (q := ⟨fun ws => WE (F ws) (q := ⟨fun w ws' => QW w (backA us ws' σ1)⟩)⟩))⟩) := by
  unfold xFn
  cases evA as σ with
  | none => rfl
  | some p =>
    show WE (if (refsA p.1).Nodup ∧ p.1.length = n then _ else none) (q := ⟨QW⟩) = WC _ _
    by_cases z : (refsA p.1).Nodup ∧ p.1.length = n
    · rw [if_pos z]
      have e : ∀ P : Prop, WC ((refsA p.1).Nodup ∧ p.1.length = n) P = P := fun P => propext ⟨fun h => h.2, fun h => ⟨z, h⟩⟩
      rw [e]
      show WE ((resA p.1 p.2).bind _) (q := ⟨QW⟩) = W1 (resA p.1 p.2) (q := _)
      cases resA p.1 p.2 with
      | none => rfl
      | some ws =>
        show WE ((F ws).map _) (q := ⟨QW⟩) = WE (F ws) (q := _)
        cases F ws <;> rfl
    · rw [if_neg z]
      exact propext ⟨fun h => h.elim, fun h => z h.1⟩
theorem e_arNil {QU : Us → VS → Prop} : WE (evA [] σ) (q := ⟨QU⟩) = QU [] σ := rfl
theorem e_arRf {QU : Us → VS → Prop} {as : List Ar} : WE (evA (.rf i :: as) σ) (q := ⟨QU⟩) = WO σ[i]? (q := ⟨fun _ => WE (evA as σ) (q := ⟨fun us σ1 => QU (Sum.inl i :: us) σ1⟩)⟩) := by
  unfold evA
  cases σ[i]? with
  | none => rfl
  | some u =>
    cases u with
    | none => rfl
    | some w =>
      show WE ((evA as σ).map _) (q := ⟨QU⟩) = WE (evA as σ) (q := _)
      cases evA as σ <;> rfl
theorem e_arEx {QU : Us → VS → Prop} {as : List Ar} : WE (evA (.ex xf :: as) σ) (q := ⟨QU⟩) = WE (xf σ) (q := ⟨fun w σ1 => WE (evA as σ1) (q := ⟨fun us σ2 => QU (Sum.inr w :: us) σ2⟩)⟩) := by
  conv => lhs; unfold evA
  cases xf σ with
  | none => rfl
  | some p =>
    show WE ((evA as p.2).map _) (q := ⟨QU⟩) = WE (evA as p.2) (q := _)
    cases evA as p.2 <;> rfl
theorem e_resN {K : List W → Prop} : W1 (resA [] σ) (q := ⟨K⟩) = K [] := rfl
theorem e_resL {us : Us} {K : List W → Prop} : W1 (resA (Sum.inl i :: us) σ) (q := ⟨K⟩) = WO σ[i]? (q := ⟨fun w => W1 (resA us σ) (q := ⟨fun r => K (w :: r)⟩)⟩) := by
  unfold resA
  cases σ[i]? with
  | none => rfl
  | some u =>
    cases u with
    | none => rfl
    | some w =>
      show W1 ((resA us σ).map _) (q := ⟨K⟩) = W1 (resA us σ) (q := _)
      cases resA us σ <;> rfl
theorem e_resR {us : Us} {K : List W → Prop} : W1 (resA (Sum.inr w :: us) σ) (q := ⟨K⟩) = W1 (resA us σ) (q := ⟨fun r => K (w :: r)⟩) := by
  show W1 ((resA us σ).map _) (q := ⟨K⟩) = W1 (resA us σ) (q := _)
  cases resA us σ <;> rfl
theorem e_bkN {ws : List W} : backA [] ws σ = σ := rfl
theorem e_bkL {us : Us} {ws : List W} : backA (Sum.inl i :: us) (w :: ws) σ = backA us ws (σ.set i (some w)) := rfl
theorem e_bkR {us : Us} {v : W} {ws : List W} : backA (Sum.inr v :: us) (w :: ws) σ = backA us ws σ := rfl
theorem e_run {m : Nat} {refs : List Nat} {ws : List W} {QR : W → List W → Prop} : WE (runF m refs x ws) (q := ⟨QR⟩) = WS (x (ws.map some ++ List.replicate (m - ws.length) none)) (n := ⟨(fun σ => W1 (outW refs 0 ws σ) (q := ⟨fun z => QR (.v .non) z⟩))⟩) (r := ⟨(fun w σ => W1 (outW refs 0 ws σ) (q := ⟨fun z => QR w z⟩))⟩) (b := ⟨No1⟩) (c := ⟨No1⟩) := by
  unfold runF
  cases x (ws.map some ++ List.replicate (m - ws.length) none) with
  | none => rfl
  | some o =>
    cases o with
    | nx σ =>
      show WE ((outW refs 0 ws σ).map _) (q := ⟨QR⟩) = W1 (outW refs 0 ws σ) (q := _)
      cases outW refs 0 ws σ <;> rfl
    | rt w σ =>
      show WE ((outW refs 0 ws σ).map _) (q := ⟨QR⟩) = W1 (outW refs 0 ws σ) (q := _)
      cases outW refs 0 ws σ <;> rfl
    | bk σ => rfl
    | ct σ => rfl
theorem e_oN {refs : List Nat} {k : Nat} {K : List W → Prop} : W1 (outW refs k [] σ) (q := ⟨K⟩) = K [] := rfl
theorem e_oC {refs : List Nat} {k : Nat} {ws : List W} {K : List W → Prop} : W1 (outW refs k (w :: ws) σ) (q := ⟨K⟩) = WI (decide (k ∈ refs)) (a := ⟨(WO σ[k]? (q := ⟨fun w' => W1 (outW refs (k + 1) ws σ) (q := ⟨fun r => K (w' :: r)⟩)⟩))⟩) (b := ⟨(WPv w (q := ⟨fun d => W1 (outW refs (k + 1) ws σ) (q := ⟨fun r => K (.v d :: r)⟩)⟩))⟩) := by
  conv => lhs; unfold outW
  by_cases z : k ∈ refs
  · rw [if_pos z, decide_eq_true z]
    show _ = WO σ[k]? (q := _)
    cases σ[k]? with
    | none => rfl
    | some u =>
      cases u with
      | none => rfl
      | some w' =>
        show W1 ((outW refs (k + 1) ws σ).map _) (q := ⟨K⟩) = W1 (outW refs (k + 1) ws σ) (q := _)
        cases outW refs (k + 1) ws σ <;> rfl
  · rw [if_neg z, decide_eq_false z]
    show _ = WPv w (q := _)
    cases w <;> first | rfl | skip
    show W1 ((outW refs (k + 1) ws σ).map _) (q := ⟨K⟩) = W1 (outW refs (k + 1) ws σ) (q := _)
    cases outW refs (k + 1) ws σ <;> rfl
/-! loops -/
abbrev QI := (List D × (VS → Prop)) → VS → Prop
theorem e_for {s : XI} {yg : YG} : WS (xFor s yg x σ) (n := ⟨N⟩) (r := ⟨R⟩) (b := ⟨B⟩) (c := ⟨C⟩) = WE (s σ) (q := ⟨fun p σ1 => WS (forL yg x p.2 p.1 σ1) (n := ⟨N⟩) (r := ⟨R⟩) (b := ⟨B⟩) (c := ⟨C⟩)⟩) := by
  unfold xFor
  cases s σ <;> rfl
theorem for_inv {yg : YG} {gd : VS → Prop} {its : List D} {σ0 : VS} (Pv : Nat → VS → Prop) (p0 : Pv 0 σ0) (pg : ∀ i σ, i ≤ its.length → Pv i σ → gd σ)
    (ps : ∀ (i : Nat) d σ, its[i]? = some d → Pv i σ → W1 (yg d σ) (q := ⟨fun σ2 => WS (x σ2) (n := ⟨(Pv (i + 1))⟩) (r := ⟨R⟩) (b := ⟨N⟩) (c := ⟨(Pv (i + 1))⟩)⟩)) (pd : ∀ σ, Pv its.length σ → N σ) : WS (forL yg x gd its σ0) (n := ⟨N⟩) (r := ⟨R⟩) (b := ⟨B⟩) (c := ⟨C⟩) := by
  have key : ∀ (n i : Nat) (σ : VS), i + n = its.length → Pv i σ → WS (forL yg x gd (its.drop i) σ) (n := ⟨N⟩) (r := ⟨R⟩) (b := ⟨B⟩) (c := ⟨C⟩) := by
    intro n
    induction n with
    | zero =>
      intro i σ hi p
      have : i = its.length := by omega
      subst this
      rw [List.drop_length]
      unfold forL
      rw [if_pos (pg _ σ (Nat.le_refl _) p)]
      exact pd σ p
    | succ n ih =>
      intro i σ hi p
      have hl : i < its.length := by omega
      have e : its[i]? = some its[i] := List.getElem?_eq_getElem hl
      rw [drop_get e]
      unfold forL
      rw [if_pos (pg _ σ (by omega) p)]
      obtain ⟨σ2, e2, q⟩ := (ps i _ σ e p).ex
      obtain ⟨o, e3, q⟩ := q.ex
      rw [e2]
      show WS ((x σ2).bind _) (n := ⟨N⟩) (r := ⟨R⟩) (b := ⟨B⟩) (c := ⟨C⟩)
      rw [e3]
      cases o with
      | nx σ3 => exact ih (i + 1) σ3 (by omega) q
      | ct σ3 => exact ih (i + 1) σ3 (by omega) q
      | bk σ3 => exact q
      | rt w σ3 => exact q
  have := key its.length 0 σ0 (by omega) p0
  rw [List.drop_zero] at this
  exact this
/-- while by a number that falls -/
theorem while_inv {σ0 : VS} (Pv : Nat → VS → Prop) {n0 : Nat} (p0 : Pv n0 σ0) (ps : ∀ n σ, Pv n σ → WE (y σ) (q := ⟨fun c σ1 => WI c (a := ⟨(WS (x σ1) (n := ⟨(fun σ2 => ∃ m, m < n ∧ Pv m σ2)⟩) (r := ⟨R⟩) (b := ⟨N⟩) (c := ⟨(fun σ2 => ∃ m, m < n ∧ Pv m σ2)⟩))⟩) (b := ⟨(N σ1)⟩)⟩)) : WS (xWhile y x σ0) (n := ⟨N⟩) (r := ⟨R⟩) (b := ⟨B⟩) (c := ⟨C⟩) := by
  have key : ∀ (n : Nat) (σ : VS), Pv n σ → ∀ k, n < k → WS (whileN y x k σ) (n := ⟨N⟩) (r := ⟨R⟩) (b := ⟨B⟩) (c := ⟨C⟩) := by
    intro n
    induction n using Nat.strongRecOn with
    | ind n ih =>
      intro σ p k hk
      cases k with
      | zero => omega
      | succ k =>
        obtain ⟨c, σ1, e1, q⟩ := (ps n σ p).ex
        unfold whileN
        rw [e1]
        cases c with
        | true =>
          obtain ⟨o, e2, q⟩ := (show WS (x σ1) (n := _) (r := _) (b := _) (c := _) from q).ex
          show WS ((x σ1).bind _) (n := ⟨N⟩) (r := ⟨R⟩) (b := ⟨B⟩) (c := ⟨C⟩)
          rw [e2]
          cases o with
          | nx σ2 =>
            obtain ⟨m, hm, pm⟩ := q
            exact ih m hm σ2 pm k (by omega)
          | ct σ2 =>
            obtain ⟨m, hm, pm⟩ := q
            exact ih m hm σ2 pm k (by omega)
          | bk σ2 => exact q
          | rt w σ2 => exact q
        | false => exact q
  have h := (key n0 σ0 p0 (n0 + 1) (Nat.lt_succ_self _)).ex
  obtain ⟨o, e, q⟩ := h
  rw [xWhile_of e]
  cases o <;> exact q
theorem e_iL {K : QI} : WE (iL xa σ) (q := ⟨K⟩) = WE (xa σ) (q := ⟨fun a σ1 => W1 (match a with | .lst ds => some ds | .scr ds => some ds | _ => none) (q := ⟨fun ds => K (ds, gdT) σ1⟩)⟩) := by
  unfold iL
  cases xa σ with
  | none => rfl
  | some p =>
    obtain ⟨d, σ1⟩ := p
    cases d <;> rfl
theorem e_iT {K : QI} : WE (iT xa σ) (q := ⟨K⟩) = WE (xa σ) (q := ⟨fun a σ1 => W1 (match a with | .tup ds => some ds | _ => none) (q := ⟨fun ds => K (ds, gdT) σ1⟩)⟩) := by
  unfold iT
  cases xa σ with
  | none => rfl
  | some p =>
    obtain ⟨d, σ1⟩ := p
    cases d <;> rfl
theorem e_some {α : Type} {a : α} {K : α → Prop} : W1 (some a) (q := ⟨K⟩) = K a := rfl
theorem e_someE {α β : Type} {a : α × β} {K : α → β → Prop} : WE (some a) (q := ⟨K⟩) = K a.1 a.2 := rfl
theorem e_iP {K : QI} : WE (iP i σ) (q := ⟨K⟩) = WO σ[i]? (q := ⟨fun w => WLs w (q := ⟨fun ds => K (ds, fun σ2 => σ2[i]? = some (some (.l ds))) σ⟩)⟩) := by
  unfold iP
  cases σ[i]? with
  | none => rfl
  | some u =>
    cases u with
    | none => rfl
    | some w => cases w <;> rfl
theorem e_iK {K : QI} : WE (iK i σ) (q := ⟨K⟩) = WO σ[i]? (q := ⟨fun w => W1 (match w with | .f qs => some qs | _ => none) (q := ⟨fun qs => K (qs.map fun q => keyTo q.1, gdT) σ⟩)⟩) := by
  unfold iK
  cases σ[i]? with
  | none => rfl
  | some u =>
    cases u with
    | none => rfl
    | some w => cases w <;> rfl
theorem e_iF {K : QI} : WE (iF xf σ) (q := ⟨K⟩) = WE (xf σ) (q := ⟨fun a σ1 => W1 (lsv [] a.view) (q := ⟨fun ds => K (ds, gdT) σ1⟩)⟩) := by
  unfold iF
  cases xf σ with
  | none => rfl
  | some p =>
    obtain ⟨w, σ1⟩ := p
    cases w <;> first | rfl | skip
    rename_i d
    cases d <;> rfl
theorem e_iR1 {K : QI} : WE (iR1 xa σ) (q := ⟨K⟩) = WE (xa σ) (q := ⟨fun a σ1 => WN a (q := ⟨fun k => WC (-(2 ^ 62) ≤ k ∧ k < 2 ^ 62) (K ((List.range k.toNat).map fun k => D.int (k : Nat), gdT) σ1)⟩)⟩) := by
  unfold iR1
  cases xa σ with
  | none => rfl
  | some p =>
    obtain ⟨d, σ1⟩ := p
    cases d <;> first | rfl | exact ite_wc
theorem e_iR2 {K : QI} : WE (iR2 xa xb σ) (q := ⟨K⟩) = WE (xa σ) (q := ⟨fun a σ1 => WE (xb σ1) (q := ⟨fun b σ2 => WN a (q := ⟨fun i => WN b (q := ⟨fun j => WC (-(2 ^ 62) ≤ i ∧ i < 2 ^ 62 ∧ -(2 ^ 62) ≤ j ∧ j < 2 ^ 62) (K ((List.range (j - i).toNat).map fun k => D.int (i + (k : Nat)), gdT) σ2)⟩)⟩)⟩)⟩) := by
  unfold iR2
  cases xa σ with
  | none => rfl
  | some p =>
    obtain ⟨d, σ1⟩ := p
    show WE ((xb σ1).bind _) (q := ⟨K⟩) = WE (xb σ1) (q := _)
    cases xb σ1 with
    | none => rfl
    | some q =>
      obtain ⟨d2, σ2⟩ := q
      cases d <;> cases d2 <;> first | rfl | exact ite_wc
theorem e_iS {K : QI} : WE (iS xa σ) (q := ⟨K⟩) = WE (xa σ) (q := ⟨fun a σ1 => W1 (match a with | .str z => some z | _ => none) (q := ⟨fun z => K (signsD z, gdT) σ1⟩)⟩) := by
  unfold iS
  cases xa σ with
  | none => rfl
  | some p =>
    obtain ⟨d, σ1⟩ := p
    cases d <;> rfl
/-! comprehensions -/
theorem e_lc {s : XI} {yg : YG} {vs : List Nat} : WE (xLc s yg y xa vs σ) (q := ⟨QW⟩) = WE (s σ) (q := ⟨fun p σ1 => WC (p.1.length < 16777216) (WE (lcL yg y xa vs p.2 p.1 [] (wipeV σ1 vs)) (q := ⟨fun l σ2 => QW (.l l) (restV σ1 vs σ2)⟩))⟩) := by
  unfold xLc
  cases s σ with
  | none => rfl
  | some p =>
    show WE (if p.1.1.length < 16777216 then _ else none) (q := ⟨QW⟩) = WC _ _
    by_cases z : p.1.1.length < 16777216
    · rw [if_pos z]
      have e : ∀ P : Prop, WC (p.1.1.length < 16777216) P = P := fun P => propext ⟨fun h => h.2, fun h => ⟨z, h⟩⟩
      rw [e]
      show WE ((lcL yg y xa vs p.1.2 p.1.1 [] (wipeV p.2 vs)).map _) (q := ⟨QW⟩) = WE (lcL yg y xa vs p.1.2 p.1.1 [] (wipeV p.2 vs)) (q := _)
      cases lcL yg y xa vs p.1.2 p.1.1 [] (wipeV p.2 vs) <;> rfl
    · rw [if_neg z]
      exact propext ⟨fun h => h.elim, fun h => z h.1⟩
theorem e_dc {s : XI} {yg : YG} {vs : List Nat} : WE (xDc s yg y xa xb vs σ) (q := ⟨QW⟩) = WE (s σ) (q := ⟨fun p σ1 => WC (p.1.length < 16777216) (WE (dcL yg y xa xb vs p.2 p.1 [] (wipeV σ1 vs)) (q := ⟨fun l σ2 => QW (.q l) (restV σ1 vs σ2)⟩))⟩) := by
  unfold xDc
  cases s σ with
  | none => rfl
  | some p =>
    show WE (if p.1.1.length < 16777216 then _ else none) (q := ⟨QW⟩) = WC _ _
    by_cases z : p.1.1.length < 16777216
    · rw [if_pos z]
      have e : ∀ P : Prop, WC (p.1.1.length < 16777216) P = P := fun P => propext ⟨fun h => h.2, fun h => ⟨z, h⟩⟩
      rw [e]
      show WE ((dcL yg y xa xb vs p.1.2 p.1.1 [] (wipeV p.2 vs)).map _) (q := ⟨QW⟩) = WE (dcL yg y xa xb vs p.1.2 p.1.1 [] (wipeV p.2 vs)) (q := _)
      cases dcL yg y xa xb vs p.1.2 p.1.1 [] (wipeV p.2 vs) <;> rfl
    · rw [if_neg z]
      exact propext ⟨fun h => h.elim, fun h => z h.1⟩
theorem e_yC1 {N : VS → Prop} : W1 (yC (.one i) d σ) (q := ⟨N⟩) = N (σ.set i (some (.v d))) := rfl
theorem e_yCm {N : VS → Prop} {is : List Nat} {ds : List D} : W1 (yC (.many is) (.tup ds) σ) (q := ⟨N⟩) = WC (ds.length = is.length) (N (setAllV σ is ds)) := ite_w1
theorem e_sa0 {ds : List D} : setAllV σ [] ds = σ := rfl
theorem e_sa {is : List Nat} {ds : List D} : setAllV σ (i :: is) (d :: ds) = setAllV (σ.set i (some (.v d))) is ds := rfl
theorem e_wi0 : wipeV σ [] = σ := rfl
theorem e_wi {vs : List Nat} : wipeV σ (i :: vs) = (wipeV σ vs).set i none := rfl
theorem e_re0 : restV σ [] σ' = σ' := rfl
theorem e_re {vs : List Nat} : restV σ (i :: vs) σ' = (match σ[i]? with
  | some (some (.v d)) => (restV σ vs σ').set i (some (.v d))
  | _ => restV σ vs σ') := rfl
/-- by the turn -/
theorem lc_inv {yg : YG} {vs : List Nat} {gd : VS → Prop} {its : List D} {σ0 : VS} {K : List D → VS → Prop} (Pv : Nat → List D → VS → Prop) (p0 : Pv 0 [] σ0) (pg : ∀ i acc σ, i ≤ its.length → Pv i acc σ → gd σ)
    (ps : ∀ (i : Nat) d acc σ, its[i]? = some d → Pv i acc σ → W1 (yg d σ) (q := ⟨fun σ2 => WE (y σ2) (q := ⟨fun c σ3 => WI c (a := ⟨(WE (xa σ3) (q := ⟨fun v σ4 => Pv (i + 1) (acc ++ [v]) (wipeV σ4 vs)⟩))⟩) (b := ⟨(Pv (i + 1) acc (wipeV σ3 vs))⟩)⟩)⟩)) (pd : ∀ acc σ, Pv its.length acc σ → K acc σ) : WE (lcL yg y xa vs gd its [] σ0) (q := ⟨K⟩) := by
  have key : ∀ (n i : Nat) (acc : List D) (σ : VS), i + n = its.length → Pv i acc σ → WE (lcL yg y xa vs gd (its.drop i) acc σ) (q := ⟨K⟩) := by
    intro n
    induction n with
    | zero =>
      intro i acc σ hi p
      have : i = its.length := by omega
      subst this
      rw [List.drop_length]
      unfold lcL
      rw [if_pos (pg _ _ σ (Nat.le_refl _) p)]
      exact pd acc σ p
    | succ n ih =>
      intro i acc σ hi p
      have hl : i < its.length := by omega
      have e : its[i]? = some its[i] := List.getElem?_eq_getElem hl
      rw [drop_get e]
      unfold lcL
      rw [if_pos (pg _ _ σ (by omega) p)]
      obtain ⟨σ2, e2, q⟩ := (ps i _ acc σ e p).ex
      obtain ⟨c, σ3, e3, q⟩ := q.ex
      rw [e2]
      show WE ((y σ2).bind _) (q := ⟨K⟩)
      rw [e3]
      cases c with
      | true =>
        obtain ⟨v, σ4, e4, q⟩ := (show WE (xa σ3) (q := _) from q).ex
        show WE ((xa σ3).bind _) (q := ⟨K⟩)
        rw [e4]
        exact ih (i + 1) _ _ (by omega) q
      | false => exact ih (i + 1) _ _ (by omega) q
  have := key its.length 0 [] σ0 (by omega) p0
  rw [List.drop_zero] at this
  exact this
theorem dc_inv {yg : YG} {vs : List Nat} {gd : VS → Prop} {its : List D} {σ0 : VS} {K : Qs → VS → Prop} (Pv : Nat → Qs → VS → Prop) (p0 : Pv 0 [] σ0) (pg : ∀ i acc σ, i ≤ its.length → Pv i acc σ → gd σ)
    (ps : ∀ (i : Nat) d acc σ, its[i]? = some d → Pv i acc σ → W1 (yg d σ) (q := ⟨fun σ2 => WE (y σ2) (q := ⟨fun c σ3 => WI c (a := ⟨(WE (xa σ3) (q := ⟨fun k σ4 => WE (xb σ4) (q := ⟨fun v σ5 => W1 (keyD k) (q := ⟨fun kk => Pv (i + 1) (putQ acc kk v) (wipeV σ5 vs)⟩)⟩)⟩))⟩) (b := ⟨(Pv (i + 1) acc (wipeV σ3 vs))⟩)⟩)⟩)) (pd : ∀ acc σ, Pv its.length acc σ → K acc σ) : WE (dcL yg y xa xb vs gd its [] σ0) (q := ⟨K⟩) := by
  have key : ∀ (n i : Nat) (acc : Qs) (σ : VS), i + n = its.length → Pv i acc σ → WE (dcL yg y xa xb vs gd (its.drop i) acc σ) (q := ⟨K⟩) := by
    intro n
    induction n with
    | zero =>
      intro i acc σ hi p
      have : i = its.length := by omega
      subst this
      rw [List.drop_length]
      unfold dcL
      rw [if_pos (pg _ _ σ (Nat.le_refl _) p)]
      exact pd acc σ p
    | succ n ih =>
      intro i acc σ hi p
      have hl : i < its.length := by omega
      have e : its[i]? = some its[i] := List.getElem?_eq_getElem hl
      rw [drop_get e]
      unfold dcL
      rw [if_pos (pg _ _ σ (by omega) p)]
      obtain ⟨σ2, e2, q⟩ := (ps i _ acc σ e p).ex
      obtain ⟨c, σ3, e3, q⟩ := q.ex
      rw [e2]
      show WE ((y σ2).bind _) (q := ⟨K⟩)
      rw [e3]
      cases c with
      | true =>
        obtain ⟨k, σ4, e4, q⟩ := (show WE (xa σ3) (q := _) from q).ex
        obtain ⟨v, σ5, e5, q⟩ := q.ex
        obtain ⟨kk, e6, q⟩ := q.ex
        show WE ((xa σ3).bind _) (q := ⟨K⟩)
        rw [e4]
        show WE ((xb σ4).bind _) (q := ⟨K⟩)
        rw [e5]
        show WE ((keyD k).bind _) (q := ⟨K⟩)
        rw [e6]
        exact ih (i + 1) _ _ (by omega) q
      | false => exact ih (i + 1) _ _ (by omega) q
  have := key its.length 0 [] σ0 (by omega) p0
  rw [List.drop_zero] at this
  exact this
/-- a comprehension that changes nothing -/
theorem lc_pure {yg : YG} {vs : List Nat} {its : List D} {σ0 : VS} {gd : VS → Prop} {K : List D → VS → Prop} (p : D → Bool) (f : D → D) (hg : gd σ0)
    (ps : ∀ d ∈ its, W1 (yg d σ0) (q := ⟨fun σ2 => WE (y σ2) (q := ⟨fun c σ3 => c = p d ∧ WI c (a := ⟨(WE (xa σ3) (q := ⟨fun v σ4 => v = f d ∧ wipeV σ4 vs = σ0⟩))⟩) (b := ⟨(wipeV σ3 vs = σ0)⟩)⟩)⟩)) (q : K ((its.filter p).map f) σ0) : WE (lcL yg y xa vs gd its [] σ0) (q := ⟨K⟩) := by
  refine lc_inv (fun i acc σ => acc = ((its.take i).filter p).map f ∧ σ = σ0) ⟨rfl, rfl⟩ (fun _ _ _ _ h => by rw [h.2]; exact hg) ?_ ?_
  · rintro i d acc σ e ⟨rfl, rfl⟩
    refine (ps d (List.mem_of_getElem? e)).mono fun σ2 q2 => q2.mono fun c σ3 q3 => ?_
    obtain ⟨hc, q3⟩ := q3
    have et : its.take (i + 1) = its.take i ++ [d] := by rw [List.take_add_one, e]; rfl
    cases c with
    | true =>
      refine WE.mono (show WE (xa σ3) (q := _) from q3) fun v σ4 q4 => ?_
      obtain ⟨rfl, e4⟩ := q4
      refine ⟨?_, e4⟩
      rw [et, List.filter_append, List.map_append, List.filter_cons, ← hc, if_pos rfl]
      rfl
    | false =>
      refine ⟨?_, q3⟩
      rw [et, List.filter_append, List.filter_cons, ← hc, if_neg (by decide)]
      rw [List.filter_nil, List.append_nil]
  · rintro acc σ ⟨rfl, rfl⟩
    rw [List.take_length]
    exact q
/-- a table made of things, nothing changed -/
theorem dc_pure {yg : YG} {vs : List Nat} {its : List D} {σ0 : VS} {gd : VS → Prop} {K : Qs → VS → Prop} (f : D → Key × D) (hg : gd σ0)
    (ps : ∀ d ∈ its, W1 (yg d σ0) (q := ⟨fun σ2 => WE (y σ2) (q := ⟨fun c σ3 => c = true ∧ WE (xa σ3) (q := ⟨fun k σ4 => WE (xb σ4) (q := ⟨fun v σ5 => keyD k = some (f d).1 ∧ v = (f d).2 ∧ wipeV σ5 vs = σ0⟩)⟩)⟩)⟩)) (q : K (mergeQ [] (its.map f)) σ0) : WE (dcL yg y xa xb vs gd its [] σ0) (q := ⟨K⟩) := by
  refine dc_inv (fun i acc σ => acc = mergeQ [] ((its.take i).map f) ∧ σ = σ0) ⟨rfl, rfl⟩ (fun _ _ _ _ h => by rw [h.2]; exact hg) ?_ ?_
  · rintro i d acc σ e ⟨rfl, rfl⟩
    refine (ps d (List.mem_of_getElem? e)).mono fun σ2 q2 => q2.mono fun c σ3 q3 => ?_
    obtain ⟨rfl, q3⟩ := q3
    refine WE.mono q3 fun k σ4 q4 => q4.mono fun v σ5 q5 => ?_
    obtain ⟨e1, rfl, e2⟩ := q5
    refine W1.mk e1 ⟨?_, e2⟩
    rw [List.take_add_one, e, List.map_append]
    show _ = mergeQ [] ((its.take i).map f ++ [((f d).1, (f d).2)])
    rw [mergeQ_snoc]
  · rintro acc σ ⟨rfl, rfl⟩
    rw [List.take_length]
    exact q
theorem e_lockS : WS (xLockS j x σ) (n := ⟨N⟩) (r := ⟨R⟩) (b := ⟨B⟩) (c := ⟨C⟩) = WO σ[j]? (q := ⟨fun w => WQs w (q := ⟨fun qs => WS (x (σ.set j (some (.f qs)))) (n := ⟨(fun σ1 => WC (σ1[j]? = some (some (.f qs))) (N (σ1.set j (some (.q qs)))))⟩) (r := ⟨(fun w σ1 => WC (σ1[j]? = some (some (.f qs))) (R w (σ1.set j (some (.q qs)))))⟩) (b := ⟨(fun σ1 => WC (σ1[j]? = some (some (.f qs))) (B (σ1.set j (some (.q qs)))))⟩) (c := ⟨(fun σ1 => WC (σ1[j]? = some (some (.f qs))) (C (σ1.set j (some (.q qs)))))⟩)⟩)⟩) := by
  unfold xLockS
  cases σ[j]? with
  | none => rfl
  | some u =>
    cases u with
    | none => rfl
    | some w =>
      cases w <;> first | rfl | skip
      rename_i qs
      show WS ((x (σ.set j (some (.f qs)))).bind _) (n := ⟨N⟩) (r := ⟨R⟩) (b := ⟨B⟩) (c := ⟨C⟩) = WS (x (σ.set j (some (.f qs)))) (n := _) (r := _) (b := _) (c := _)
      have ite_ws : ∀ {P : Prop} {o : Out} [Decidable P], WS (if P then some o else none) (n := ⟨N⟩) (r := ⟨R⟩) (b := ⟨B⟩) (c := ⟨C⟩) = WC P (WS (some o) (n := ⟨N⟩) (r := ⟨R⟩) (b := ⟨B⟩) (c := ⟨C⟩)) := by
        intro P o _
        by_cases z : P
        · rw [if_pos z]
          exact propext ⟨fun h => ⟨z, h⟩, fun h => h.2⟩
        · rw [if_neg z]
          exact propext ⟨fun h => h.elim, fun h => z h.1⟩
      cases x (σ.set j (some (.f qs))) with
      | none => rfl
      | some o => cases o <;> exact ite_ws
theorem e_lockF : WE (xLockF j xf σ) (q := ⟨QW⟩) = WO σ[j]? (q := ⟨fun w => WQs w (q := ⟨fun qs => WE (xf (σ.set j (some (.f qs)))) (q := ⟨fun w σ1 => WC (σ1[j]? = some (some (.f qs))) (QW w (σ1.set j (some (.q qs))))⟩)⟩)⟩) := by
  unfold xLockF
  cases σ[j]? with
  | none => rfl
  | some u =>
    cases u with
    | none => rfl
    | some w =>
      cases w <;> first | rfl | skip
      rename_i qs
      show WE ((xf (σ.set j (some (.f qs)))).bind _) (q := ⟨QW⟩) = WE (xf (σ.set j (some (.f qs)))) (q := _)
      cases xf (σ.set j (some (.f qs))) with
      | none => rfl
      | some o => exact ite_wc
/-- where several ways meet -/
theorem w_join {o : Option Out} (N' : VS → Prop) (h : WS o (n := ⟨N'⟩) (r := ⟨R⟩) (b := ⟨B⟩) (c := ⟨C⟩)) (n : ∀ σ, N' σ → N σ) : WS o (n := ⟨N⟩) (r := ⟨R⟩) (b := ⟨B⟩) (c := ⟨C⟩) := h.mono n (fun _ _ z => z) (fun _ z => z) (fun _ z => z)
/-! operations -/
theorem g_addI {a b : Int} : gAdd (.int a) (.int b) = some (.int (a + b)) := rfl
theorem g_addL {a b : List D} {K : D → Prop} : W1 (gAdd (.lst a) (.lst b)) (q := ⟨K⟩) = WC (a.length + b.length ≤ 16777216) (K (.lst (a ++ b))) := ite_w1
theorem g_addT {a b : List D} {K : D → Prop} : W1 (gAdd (.tup a) (.tup b)) (q := ⟨K⟩) = WC (a.length + b.length ≤ 16777216) (K (.tup (a ++ b))) := ite_w1
theorem g_addS {a b : Str} {K : D → Prop} : W1 (gAdd (.str a) (.str b)) (q := ⟨K⟩) = WC (a.length + b.length ≤ 16777216) (K (.str (a ++ b))) := ite_w1
theorem g_subI {a b : Int} : gSub (.int a) (.int b) = some (.int (a - b)) := rfl
theorem g_mulI {a b : Int} {K : D → Prop} : W1 (gMul (.int a) (.int b)) (q := ⟨K⟩) = WC (MulOk a b) (K (.int (a * b))) := ite_w1
theorem g_divI {a b : Int} {K : D → Prop} : W1 (gDiv (.int a) (.int b)) (q := ⟨K⟩) = WC (CDivW a b) (K (.int (a / b))) := ite_w1
theorem g_modI {a b : Int} {K : D → Prop} : W1 (gMod (.int a) (.int b)) (q := ⟨K⟩) = WC (0 < b) (K (.int (a % b))) := ite_w1
theorem g_powI {a b : Int} {K : D → Prop} : W1 (gPow (.int a) (.int b)) (q := ⟨K⟩) = WC (CPow a b) (K (.int (a ^ b.toNat))) := ite_w1
theorem g_negI {a : Int} : gNeg (.int a) = some (.int (-a)) := rfl
theorem g_ltI {a b : Int} : gLt (.int a) (.int b) = some (.bl (decide (a < b))) := rfl
theorem g_ltS {a b : Str} : gLt (.str a) (.str b) = some (.bl (decide (a.cps.toList < b.cps.toList))) := rfl
theorem g_leI {a b : Int} : gLe (.int a) (.int b) = some (.bl (decide (a ≤ b))) := rfl
theorem g_gtI {a b : Int} : gGt (.int a) (.int b) = some (.bl (decide (b < a))) := rfl
theorem g_geI {a b : Int} : gGe (.int a) (.int b) = some (.bl (decide (b ≤ a))) := rfl
theorem g_eqI {a b : Int} : gEq (.int a) (.int b) = some (.bl (decide (a = b))) := rfl
theorem g_eqS {a b : Str} : gEq (.str a) (.str b) = some (.bl (decide (a = b))) := rfl
theorem g_eqB {a b : Bool} : gEq (.bl a) (.bl b) = some (.bl (decide (a = b))) := rfl
theorem g_neI {a b : Int} : gNe (.int a) (.int b) = some (.bl (!decide (a = b))) := rfl
theorem g_neS {a b : Str} : gNe (.str a) (.str b) = some (.bl (!decide (a = b))) := rfl
theorem g_neB {a b : Bool} : gNe (.bl a) (.bl b) = some (.bl (!decide (a = b))) := rfl
theorem g_isN {a : D} : gIsN a .non = some (.bl (isNon a)) := rfl
theorem g_notN {a : D} : gNotN a .non = some (.bl (!isNon a)) := rfl
theorem isN1 : isNon .non = true := rfl
theorem isN2 {a : Str} : isNon (.str a) = false := rfl
theorem isN3 {a : Int} : isNon (.int a) = false := rfl
theorem g_ixT {ds : List D} {k : Int} : gIx (.tup ds) (.int k) = atI ds k := rfl
theorem g_ixL {ds : List D} {k : Int} : gIx (.lst ds) (.int k) = atI ds k := rfl
theorem g_ixZ {ds : List D} {k : Int} : gIx (.scr ds) (.int k) = atI ds k := rfl
theorem g_lenT {ds : List D} : gLen (.tup ds) = some (.int ds.length) := rfl
theorem g_lenL {ds : List D} : gLen (.lst ds) = some (.int ds.length) := rfl
theorem g_lenZ {ds : List D} : gLen (.scr ds) = some (.int ds.length) := rfl
theorem g_min {a b : Int} : gMin (.int a) (.int b) = some (.int (if b < a then b else a)) := rfl
theorem g_max {a b : Int} : gMax (.int a) (.int b) = some (.int (if b > a then b else a)) := rfl
theorem g_intB {b : Bool} : gInt (.bl b) = some (.int (if b then 1 else 0)) := rfl
theorem g_intI {b : Int} : gInt (.int b) = some (.int b) := rfl
theorem g_tupL {ds : List D} : gTuple (.lst ds) = some (.tup ds) := rfl
theorem g_tupT {ds : List D} : gTuple (.tup ds) = some (.tup ds) := rfl
theorem g_lstT {ds : List D} : gList (.tup ds) = some (.lst ds) := rfl
theorem g_lstL {ds : List D} : gList (.lst ds) = some (.lst ds) := rfl
theorem g_cutT {ds : List D} {lo hi : Option Int} : gCut (.tup ds) lo hi = some (.tup (cutD ds lo hi)) := rfl
theorem g_cutL {ds : List D} {lo hi : Option Int} : gCut (.lst ds) lo hi = some (.lst (cutD ds lo hi)) := rfl
theorem g_cutZ {ds : List D} {lo hi : Option Int} : gCut (.scr ds) lo hi = some (.lst (cutD ds lo hi)) := rfl
theorem dcv_d {qs : Qs} : dcv [] (dctD qs) = some qs := dcv_val
theorem g_dgS {qs : Qs} {s : Str} : gDGet (dctD qs) (.str s) = valD qs (Sum.inr s) := by
  unfold gDGet
  rw [dcv_d]
  rfl
theorem g_dgI {qs : Qs} {s : Int} : gDGet (dctD qs) (.int s) = valD qs (Sum.inl s) := by
  unfold gDGet
  rw [dcv_d]
  rfl
theorem g_getS {qs : Qs} {s : Str} : gGet (dctD qs) (.str s) b = some ((valD qs (Sum.inr s)).getD b) := by
  unfold gGet
  rw [dcv_d]
  rfl
theorem g_getI {qs : Qs} {s : Int} : gGet (dctD qs) (.int s) b = some ((valD qs (Sum.inl s)).getD b) := by
  unfold gGet
  rw [dcv_d]
  rfl
theorem g_getN {qs : Qs} : gGet (dctD qs) .non b = some b := by
  unfold gGet
  rw [dcv_d]
theorem g_diS {qs : Qs} {s : Str} {c : Bool} : gDIn c (.str s) (dctD qs) = some (.bl ((valD qs (Sum.inr s)).isSome == c)) := by
  unfold gDIn
  rw [dcv_d]
  rfl
theorem isS_d {qs : Qs} : ((dcv [] (dctD qs)).isSome = true) = True := by rw [dcv_d]; exact propext ⟨fun _ => trivial, fun _ => rfl⟩
theorem vo_v : W.vo (.v d) = some d := rfl
theorem vo_l {ds : List D} : W.vo (.l ds) = some (.lst ds) := rfl
theorem vo_q {qs : Qs} : W.vo (.q qs) = some (dctD qs) := rfl
theorem vo_f {qs : Qs} : W.vo (.f qs) = some (dctD qs) := rfl
theorem vw_v : W.view (.v d) = d := rfl
theorem vw_l {ds : List D} : W.view (.l ds) = .lst ds := rfl
theorem vw_q {qs : Qs} : W.view (.q qs) = dctD qs := rfl
theorem vw_f {qs : Qs} : W.view (.f qs) = dctD qs := rfl
theorem g_abc {c : Int} {K : D → Prop} (h0 : 0 ≤ c) (h1 : c < 26) (q : K (.str (sgn c))) : W1 (gIx (.str abc) (.int c)) (q := ⟨K⟩) := by
  refine W1.mk ?_ q
  show (if abc.length ≤ 16777216 then (atI abc.cps.toList c).map _ else none) = _
  rw [if_pos (by decide), abc_at h0 h1]
  rfl
theorem g_joinW {ws : List Int} {K : D → Prop} (l : ws.length ≤ 100) (q : K (.str (wordS ws))) : W1 (gJoin (.str ("" : Str)) (.lst (ws.map fun c => D.str (sgn c)))) (q := ⟨K⟩) := by
  refine W1.mk ?_ q
  have e : (ws.map fun c => D.str (sgn c)) = (ws.map sgn).map D.str := by
    rw [List.map_map]
    rfl
  unfold gJoin
  show (match asStrs (ws.map fun c => D.str (sgn c)) with | some ss => _ | none => none) = _
  rw [e, asStrs_of]
  show (if _ then _ else _) = _
  rw [if_pos, join_word]
  rw [sum_ones]
  show ws.length + (ws.map sgn).length * 0 ≤ 16777216
  omega
theorem g_reprS {p : PyData} {n m : Nat} {K : D → Prop} (e : toP d = some p) (s : Sh p n m) (hn : n ≤ 16777216) (hd : m ≤ 60) (q : K (.str p.shown)) : W1 (gRepr d) (q := ⟨K⟩) := W1.mk (by unfold gRepr; rw [e]; exact if_pos (s.show hn hd)) q
theorem g_neNil {ss : List Str} {K : D → Prop} (ok : ∀ s ∈ ss, NameS s) (q : K (.bl (!ss.isEmpty))) : W1 (gNe (.lst (ss.map D.str)) (.lst [])) (q := ⟨K⟩) := by
  refine W1.mk ?_ q
  have e1 : toP (.lst (ss.map D.str)) = some (.list (ss.map PyData.str)) := by
    unfold toP
    rw [toPs_strs]
    rfl
  have e2 : toP (.lst []) = some (.list []) := rfl
  have e3 : PyData.eqv (.list (ss.map PyData.str)) (.list []) = ss.isEmpty := by
    cases ss <;> rfl
  unfold gNe
  dsimp only
  rw [e1, e2]
  dsimp only
  rw [if_pos ⟨shaped_strs ok, rfl⟩, e3]
theorem g_sortedS {ss : List Str} (h : ss.length < 64) : gSorted (.lst (ss.map D.str)) = some (.lst ((sortS ss).map D.str)) := by
  unfold gSorted
  show (if true = true ∧ (asStrs (ss.map D.str)).isSome = true ∧ (ss.map D.str).length < 64 then (asStrs (ss.map D.str)).map _ else _) = _
  rw [asStrs_of, if_pos ⟨rfl, rfl, by rw [List.length_map]; exact h⟩]
  rfl
theorem asStrs_tup {e : D} {es : List D} (h : okF e = true) : asStrs (e :: es) = none := by
  cases e <;> first | rfl | cases h
theorem asInts_tup {e : D} {es : List D} (h : okF e = true) : asInts (e :: es) = none := by
  cases e <;> first | rfl | cases h
theorem g_sortedF {es : List D} (h : es.length < 64) (ok : ∀ e ∈ es, okF e = true) (nd : (es.map firstS).Nodup) : gSorted (.lst es) = some (.lst (sortF es)) := by
  cases es with
  | nil =>
    have e := g_sortedS (ss := []) (by decide)
    simp only [sortS, List.map_nil, List.mergeSort_nil] at e
    simp only [sortF, List.mergeSort_nil]
    exact e
  | cons e es =>
    have h0 := ok e (List.mem_cons_self ..)
    unfold gSorted
    show (if true = true ∧ (asStrs (e :: es)).isSome = true ∧ (e :: es).length < 64 then _ else if true = true ∧ (asInts (e :: es)).isSome = true then _ else if _ then _ else none) = _
    rw [asStrs_tup h0, asInts_tup h0, if_neg (by simp), if_neg (by simp), if_pos ⟨h, ok, nd⟩]
theorem g_sortedFT {es : List D} (h : es.length < 64) (ok : ∀ e ∈ es, okF e = true) (nd : (es.map firstS).Nodup) : gSorted (.tup es) = some (.lst (sortF es)) := by
  unfold gSorted
  show (if false = true ∧ _ then _ else if false = true ∧ _ then _ else if _ then _ else none) = _
  rw [if_neg (by simp), if_neg (by simp), if_pos ⟨h, ok, nd⟩]
/-- sorted names -/
theorem sortS_lt {ss : List Str} (nd : ss.Nodup) : (sortS ss).Pairwise ltS := by
  have nd2 : (sortS ss).Nodup := (sortS_perm ss).nodup_iff.mpr nd
  exact ((sortS_up ss).and nd2).imp fun h => ltS_total h.1 fun z => h.2 z.symm
theorem range_lt {n i : Nat} {f : Nat → D} {d : D} (e : ((List.range n).map f)[i]? = some d) : i < n := by
  have := (List.getElem?_eq_some_iff.mp e).1
  rw [List.length_map, List.length_range] at this
  exact this
end
end FL
end
section
/-! The value layer: sorted(d), list(d.items()). -/
namespace FL
open PySem PySem.Spec PyProof.Rows L2
open Classical

/-- sorted(d), all keys ints -/
def fSortedD : FA := fun ds h R => ∃ (x : D) (qs : Qs) (ks : List Int), ds = [x] ∧ dcv h x = some qs ∧ qs.map (·.1) = ks.map Sum.inl ∧ ks.length < 16777216 ∧ ∀ ms : List Int, ms.Perm ks → ms.Pairwise (· ≤ ·) → R (.lst (ms.map D.int)) h
section
variable {X : Cx}
theorem keyed_ints {vs : List (Key × Value)} {ks : List Int} {acc : List Value} (e : vs.map (·.1) = ks.map Sum.inl) (hl : acc.length = ks.length)
    (f : ∀ (j : Nat) (v : Value), acc[j]? = some v → ∃ k x, vs[j]? = some (k, x) ∧ keyIs k v = true) : IntsAre acc ks := by
  refine ints_each hl fun j v ej => ?_
  obtain ⟨k, x, a1, a2⟩ := f j v ej
  have a3 := congrArg (fun l => l[j]?) e
  simp only [List.getElem?_map, a1] at a3
  cases hk : ks[j]? with
  | none =>
    rw [hk] at a3
    cases a3
  | some y =>
    rw [hk] at a3
    have a5 : k = Sum.inl y := Option.some.inj a3
    subst a5
    rcases keyIs_shape (k := Sum.inl y) (v := v) a2 with ⟨i, t, b1, b2⟩ | ⟨z, t, b1, b2⟩
    · cases b1
      exact ⟨y, t, rfl, b2⟩
    · cases b1
theorem o_sortedD (hcalm : X.calm = true) : DC X (.builtin "sorted") fSortedD := by
  intro pins s σ H xs us Q J r ⟨I, ds, h, R, hr, rd, ⟨x, qs, ks, e, e1, e2, hz, hR⟩, go⟩
  subst e
  obtain ⟨v, rfl, rx⟩ := rd.one
  obtain ⟨a, kvs, rfl, hp, kq⟩ := dcv_ok hr rx e1
  obtain ⟨u, rfl, ru⟩ := vals1 r
  cases ru
  obtain ⟨_, lo, vs, rel, dd⟩ := dk_rd J.hok hp
  obtain ⟨ep, hat⟩ := dd.dictAt
  have keys : vs.map (·.1) = ks.map Sum.inl := (rel.keys.symm.trans kq.ks).trans e2
  have len : vs.length = ks.length := by
    have := congrArg List.length keys
    simpa using this
  have room : vs.length ≤ sizeLine := by
    rw [len, sizeLine_eq]
    omega
  refine Calls.call_function_entry kind_sorted plain_sorted entry_sorted (args_sorted1 _) ?_
  unfold Builtin.«sorted»
  refine wpAny_bind (m := checkCount "sorted" 1 1 _) (wpAny_pure ?_)
  have src := PySem.W.kdl_dict (knd := mixKind X.prog X.w) (kvs := vs) (ep := ep) lo
  refine wpAny_bind (PySem.W.kdu_collect (A := X.A.in1) src (J.ok.hd hcalm) hat room fun h1 tk acc old each => ?_)
  have la : acc.toList.length = ks.length := by
    rw [Array.length_toList, each.1, len]
  have inI : IntsAre acc.toList ks := keyed_ints keys la fun j v ej => each.2 j v (by rw [← Array.getElem?_toList]; exact ej)
  have J1 : Inv X pins σ H { s with heap := h1, toks := tk } := J.kept old
  have small : acc.toList.length ≤ sizeLine := by
    rw [la, sizeLine_eq]
    omega
  refine wpAny_bind (wpAny_newList ?_ small)
  have ob : (h1.push (seqObj "list" acc.toList.toArray 0)).get? h1.objs.size = some (seqObj "list" acc.toList.toArray 0) := Heap.get?_push_size _ rfl
  show wpAny _ _ _ _ _ { s with heap := h1.push (seqObj "list" acc.toList.toArray 0), toks := tk }
  refine wpAny_bind (wpAny_holding (wpAny_call_entry slot_list_sort ⟨_, ob, rfl⟩ entry_list_sort (SrtO.list_sort_ord (s := { s with heap := h1.push (seqObj "list" acc.toList.toArray 0), toks := tk }) SrtO.swo_int ob small (fun h2 => SrtO.ints_sortable inI h2) fun out p1 p2 => ⟨_, rfl, ?_⟩) (args_list_sort _)))
  obtain ⟨k1, k2, k3⟩ := SrtO.ints_out inI p1 p2
  obtain ⟨e', he'⟩ := sortedHeap_at (vs := acc.toList) (out := out.toArray) ob
  have fresh : H h1.objs.size = none := J1.hok.fresh (Nat.le_refl _)
  have hq : Q (.ref h1.objs.size) (upd H h1.objs.size (.lst ((out.map SrtO.iv).map V.int))) := go.lst (hR _ k2 k3) hr (rds_ints _) _ fresh
  have sz2 : ((out.map SrtO.iv).map V.int).length ≤ sizeLine := by
    rw [List.length_map, k2.length_eq, sizeLine_eq]
    omega
  refine wpAny_pure ⟨_, rfl, .ref h1.objs.size, upd H h1.objs.size (.lst ((out.map SrtO.iv).map V.int)), J1.laid (t' := tk) (fun b o eo => ?_) (Nat.le_refl _)
    (show ObjOk X.prog X.w _ _ _ (.lst ((out.map SrtO.iv).map V.int)) from ⟨sz2, out, e', vals_of_ints k1, he'⟩), rfl, hq⟩
  have lt : b < h1.objs.size := Heap.lt_size eo
  rw [sortedHeap_old (Nat.ne_of_lt lt) (by rw [size_push']; exact Nat.lt_succ_of_lt lt)]
  exact Heap.get?_push_of_some _ eo
end
def asIKeys : List Key → Option (List Int)
  | [] => some []
  | Sum.inl i :: r => (asIKeys r).map fun l => i :: l
  | Sum.inr _ :: _ => none
theorem asIKeys_ok : ∀ {l : List Key} {ns : List Int}, asIKeys l = some ns → l = ns.map Sum.inl
  | [], _, e => by
    cases e
    rfl
  | Sum.inl i :: r, ns, e => by
    unfold asIKeys at e
    obtain ⟨l, e1, e2⟩ := map_some e
    subst e2
    rw [asIKeys_ok e1]
    rfl
  | Sum.inr _ :: _, _, e => by cases e
theorem asIKeys_of : ∀ ns : List Int, asIKeys (ns.map Sum.inl) = some ns
  | [] => rfl
  | n :: ns => by
    show (asIKeys (ns.map Sum.inl)).map _ = _
    rw [asIKeys_of ns]
    rfl
def gSortedD : G1 := fun x => match dcv [] x with
  | some qs => (match asIKeys (qs.map (·.1)) with
    | some ks => if ks.length < 16777216 then some (.lst ((sortI ks).map D.int)) else none
    | none => none)
  | none => none
theorem ba_sortedD : Ba1 fSortedD gSortedD := by
  intro a a' r h R e va q
  unfold gSortedD at e
  split at e
  · rename_i qs e1
    split at e
    · rename_i ks e2
      split at e
      · rename_i hz
        cases e
        refine ⟨_, qs, ks, rfl, va.dcv e1, asIKeys_ok e2, hz, fun ms p u => ?_⟩
        rw [sorted_eq (r := fun a b : Int => a ≤ b) (fun a b x y => by omega) (p.trans (sortI_perm ks).symm) u (sortI_up ks)]
        exact q
      · cases e
    · cases e
  · cases e
theorem g_sortedD {qs : Qs} {ks : List Int} (e : qs.map (·.1) = ks.map Sum.inl) (h : ks.length < 16777216) : gSortedD (dctD qs) = some (.lst ((sortI ks).map D.int)) := by
  unfold gSortedD
  rw [dcv_d]
  dsimp only
  rw [e, asIKeys_of]
  exact if_pos h

/-! ### list(d.items()) -/
def dListItems (te : TDE) : TDE := fun δ h R => te δ h fun x h1 => ∃ n qs, x = .ref n ∧ h1[n]? = some (.dct qs) ∧ R (.lst (qs.map pairD)) h1
section
variable {X : Cx} {e : Expr} {te : TDE} {p apos cpos pos : Pos}
theorem pairs_new {K : Fg} {H' : Hp} {I : List Addr} : ∀ {ts : List Addr} {kvs : List (Key × V)} {qs : Qs}, Paired (fun (t : Addr) (q : Key × V) => H' t = some (.tup [kV q.1, q.2])) ts kvs → KQ K H' I qs kvs → (∀ t ∈ ts, t ∉ I) → RDs K H' I (qs.map pairD) (ts.map V.ref)
  | [], _, [], .nil, _, _ => .nil
  | [], _, _ :: _, .nil, q, _ => by
    obtain ⟨v, r, e, _⟩ := q.uncons
    cases e
  | _ :: _, _, [], .cons _ _, q, _ => by
    have := q.nil'
    cases this
  | t :: ts, _, p :: qs, .cons a b, q, f => by
    obtain ⟨v, r, e, rv, q1⟩ := q.uncons
    cases e
    refine .cons (.tup (Or.inl ⟨Or.inl a, f t (List.mem_cons_self ..)⟩) (.cons (keyTo_ok p.1) (.cons rv .nil))) (pairs_new b q1 fun t ht => f t (List.mem_cons_of_mem _ ht))
theorem d_listItems (hc : X.calm = true) (he : DE X e te) (hg : Gl X "list") (hm : X.mg "list" = none) (hv : bootBuiltins "list" = some (.type "list")) (hbase : attributeBase e "items" X.env (eval e X.env) = eval e X.env := by rfl) (hline : (apos.endLine == cpos.line) = true := by rfl)
    (hs : starEach [.Call (.Attribute e "items" apos) [] [] cpos] X.env = (false, eval (.Call (.Attribute e "items" apos) [] [] cpos) X.env) :: starEach [] X.env := by rfl) :
    DE X (.Call (.Name "list" p) [.Call (.Attribute e "items" apos) [] [] cpos] [] pos) (dListItems te) := by
  refine PE.imp (LiI.pe_listItems hc he hg hm hv hbase hline hs) fun σ H Q ⟨I, δ, h, R, sr, hr, q, g⟩ => ?_
  refine ⟨I, δ, h, _, sr, hr, q, fun dx h1 I1 H1 x ⟨n, qs, e1, e2, hR⟩ s1 hr1 rx => ?_⟩
  subst e1
  obtain ⟨a, rfl, qa⟩ := rx.refv
  obtain ⟨kvs, f1, f2, f3⟩ := hr1.ob n a _ qa e2
  refine ⟨a, kvs, rfl, f1, fun H' p' ts old np nt npt hp' pr => ?_⟩
  have st : Stp I1 H1 I1 H' := ⟨⟨⟨[], (List.append_nil I1).symm, fun b hb => absurd hb List.not_mem_nil⟩, fun b o z _ => old b o z, fun b o z => ⟨o, old b o z⟩⟩, fun b o u z => old b _ z⟩
  have hr2 : HR X.K I1 h1 H' := ⟨hr1.len, hr1.nd, fun i b o hi ho => by
    obtain ⟨u, z⟩ := hr1.tracked (List.mem_of_getElem? hi)
    exact (hr1.ob i b o hi ho).moved ((old b u z).trans z.symm) fun w => w.step st⟩
  refine g _ h1 I1 H' _ hR (s1.trans st) hr2 (.lst hp' (hr1.fresh np) ?_)
  exact pairs_new pr (KQ.step ⟨f2, f3⟩ st) fun t ht => hr1.fresh (nt t ht)
end
def xItems (i : Nat) : XE := fun σ => match σ[i]? with
  | some (some (.q qs)) => some (.lst (qs.map pairD), σ)
  | _ => none
theorem v_listItems {i : Nat} : SE (dListItems (dVar i)) (xItems i) := fun σ d σ' e δ h c R r q => by
  unfold xItems at e
  split at e
  · rename_i qs z
    cases e
    obtain ⟨d2, e2, n, rfl, cn, hn⟩ := r.look i _ z
    exact ⟨_, e2, n, qs, rfl, hn, q h c r Ch.refl⟩
  · cases e
theorem e_items {i : Nat} {σ : VS} {Q : D → VS → Prop} : WE (xItems i σ) (q := ⟨Q⟩) = WO σ[i]? (q := ⟨fun w => WQs w (q := ⟨fun qs => Q (.lst (qs.map pairD)) σ⟩)⟩) := by
  unfold xItems
  cases σ[i]? with
  | none => rfl
  | some u =>
    cases u with
    | none => rfl
    | some w => cases w <;> rfl
end FL
end
section
/-! The value layer: what is plain is shown, and is like itself. -/
namespace FL
open PySem L2

structure Pq (p : PyData) (n m : Nat) : Prop where
  sh : Sh p n m
  lay : p.canLay0 = true
structure PqA (ps : List PyData) (n m : Nat) : Prop where
  sh : ShA ps n m
  lay : PyData.canLayAll0 ps = true
/-- d is plain: shown by at most n signs, m deep -/
def PD (d : D) (n m : Nat) : Prop := ∃ p, toP d = some p ∧ Pq p n m
def PDs (ds : List D) (n m : Nat) : Prop := ∃ ps, toPs ds = some ps ∧ PqA ps n m
theorem pd_int {i : Int} (h0 : -(2 ^ 64) ≤ i) (h1 : i ≤ 2 ^ 64) : PD (.int i) 201 0 := ⟨_, rfl, sh_i h0 h1, rfl⟩
theorem pd_str {s : Str} (h : NameS s) : PD (.str s) 82 0 := ⟨_, rfl, h.sh, h.strOk⟩
theorem pd_non : PD .non 4 0 := ⟨_, rfl, sh_none, rfl⟩
theorem pd_bl {b : Bool} : PD (.bl b) 5 0 := ⟨_, rfl, sh_bool, rfl⟩
theorem PD.wk {d : D} {n m n' m' : Nat} (h : PD d n m) (hn : n ≤ n') (hm : m ≤ m') : PD d n' m' := by
  obtain ⟨p, e, h1, h2⟩ := h
  exact ⟨p, e, h1.wk hn hm, h2⟩
theorem PDs.wk {d : List D} {n m n' m' : Nat} (h : PDs d n m) (hn : n ≤ n') (hm : m ≤ m') : PDs d n' m' := by
  obtain ⟨p, e, h1, h2⟩ := h
  exact ⟨p, e, h1.wk hn hm, h2⟩
theorem pds_nil : PDs [] 0 0 := ⟨[], rfl, sha_nil, rfl⟩
theorem pds_cons {d : D} {ds : List D} {n m n' m' : Nat} (h : PD d n m) (hs : PDs ds n' m') : PDs (d :: ds) (n + 2 + n') (max m m') := by
  obtain ⟨p, e, h1, h2⟩ := h
  obtain ⟨ps, es, h3, h4⟩ := hs
  refine ⟨p :: ps, ?_, sha_cons h1 h3, ?_⟩
  · show (match toP d, toPs ds with
      | some p, some ps => some (p :: ps)
      | _, _ => none) = _
    rw [e, es]
  · show (p.canLay0 && PyData.canLayAll0 ps) = true
    rw [h2, h4]
    rfl
theorem pds_all {n m : Nat} : ∀ {ds : List D}, (∀ d ∈ ds, PD d n m) → PDs ds (ds.length * (n + 2)) m
  | [], _ => pds_nil.wk (Nat.zero_le _) (Nat.zero_le _)
  | d :: ds, h => by
    refine (pds_cons (h d (List.mem_cons_self ..)) (pds_all fun x hx => h x (List.mem_cons_of_mem _ hx))).wk ?_ ?_
    · rw [List.length_cons, Nat.add_mul]
      omega
    · omega
theorem pd_tup {ds : List D} {n m : Nat} (h : PDs ds n m) : PD (.tup ds) (n + 3) (m + 1) := by
  obtain ⟨ps, e, h1, h2⟩ := h
  refine ⟨.tuple ps, ?_, sh_tup h1, h2⟩
  show (toPs ds).map PyData.tuple = _
  rw [e]
  rfl
theorem pd_lst {ds : List D} {n m : Nat} (h : PDs ds n m) : PD (.lst ds) (n + 2) (m + 1) := by
  obtain ⟨ps, e, h1, h2⟩ := h
  refine ⟨.list ps, ?_, sh_list h1, h2⟩
  show (toPs ds).map PyData.list = _
  rw [e]
  rfl
/-- the text of d -/
noncomputable def shw (d : D) : Str := match toP d with
  | some p => p.shown
  | none => ""
theorem g_reprD {d : D} {n m : Nat} (h : PD d n m) (hn : n ≤ 16777216) (hm : m ≤ 60) : gRepr d = some (.str (shw d)) := by
  obtain ⟨p, e, h1, h2⟩ := h
  unfold gRepr shw
  rw [e]
  exact if_pos (h1.show hn hm)
theorem shapedP {p : PyData} {n m : Nat} (h : Pq p n m) (hm : m ≤ 60) : SeqAt.shaped p = true := by
  unfold SeqAt.shaped
  have := h.sh.dp
  rw [h.lay, Bool.true_and]
  exact decide_eq_true (by omega)
theorem g_eqTup {ds es : List D} {n m : Nat} (h : PD (.tup ds) n m) (hm : m ≤ 60) (e : ds = es) : gEq (.tup ds) (.tup es) = some (.bl true) := by
  subst e
  obtain ⟨p, e, h1⟩ := h
  show (match toP (.tup ds), toP (.tup ds) with
    | some a, some b => if SeqAt.shaped a = true ∧ SeqAt.shaped b = true then some (D.bl (PyData.eqv a b)) else none
    | _, _ => none) = _
  rw [e]
  have := shapedP h1 hm
  dsimp only
  rw [if_pos ⟨this, this⟩, SeqAt.eqv_refl p h1.lay]
theorem g_neTup {ds es : List D} {n m : Nat} (h : PD (.tup ds) n m) (hm : m ≤ 60) (e : ds = es) : gNe (.tup ds) (.tup es) = some (.bl false) := by
  subst e
  obtain ⟨p, e, h1⟩ := h
  show (match toP (.tup ds), toP (.tup ds) with
    | some a, some b => if SeqAt.shaped a = true ∧ SeqAt.shaped b = true then some (D.bl (!PyData.eqv a b)) else none
    | _, _ => none) = _
  rw [e]
  have := shapedP h1 hm
  dsimp only
  rw [if_pos ⟨this, this⟩, SeqAt.eqv_refl p h1.lay]
  rfl
theorem g_eqLst {ds es : List D} {n m : Nat} (h : PD (.lst ds) n m) (hm : m ≤ 60) (e : ds = es) : gEq (.lst ds) (.lst es) = some (.bl true) := by
  subst e
  obtain ⟨p, e, h1⟩ := h
  show (match toP (.lst ds), toP (.lst ds) with
    | some a, some b => if SeqAt.shaped a = true ∧ SeqAt.shaped b = true then some (D.bl (PyData.eqv a b)) else none
    | _, _ => none) = _
  rw [e]
  have := shapedP h1 hm
  dsimp only
  rw [if_pos ⟨this, this⟩, SeqAt.eqv_refl p h1.lay]
theorem g_neLst {ds es : List D} {n m : Nat} (h : PD (.lst ds) n m) (hm : m ≤ 60) (e : ds = es) : gNe (.lst ds) (.lst es) = some (.bl false) := by
  subst e
  obtain ⟨p, e, h1⟩ := h
  show (match toP (.lst ds), toP (.lst ds) with
    | some a, some b => if SeqAt.shaped a = true ∧ SeqAt.shaped b = true then some (D.bl (!PyData.eqv a b)) else none
    | _, _ => none) = _
  rw [e]
  have := shapedP h1 hm
  dsimp only
  rw [if_pos ⟨this, this⟩, SeqAt.eqv_refl p h1.lay]
  rfl
theorem g_sumI {ns : List Int} : gSum (.lst (ns.map D.int)) = some (.int ns.sum) := by
  show (asInts (ns.map D.int)).map _ = _
  rw [asInts_of]
  rfl
end FL
end
section
/-! The value layer: a, .., *rest = a list. -/
namespace FL
open PySem PySem.Spec PyProof.Rows L2
open Classical
section
variable {prog : Program} {w : World} {A : Around} {E : Value → Shared → Prop} {s : Shared}
theorem listFrom (hh : A.handled = none) (I ax : Addr) (hne : ax ≠ I) (items : Array Value) (k : Nat) (hk : k ≤ items.size) :
    Walks prog w A I [I, ax] [I] (items.size - k) (fun i v => items[k + i]? = some v) (fun i h => h.IsListIter I ax (k + i) ∧ h.IsList ax items) where
  sub := (Walks.list (prog := prog) (w := w) hh I ax hne items).sub
  frame := fun i => (Walks.list (prog := prog) (w := w) hh I ax hne items).frame (k + i)
  item := fun i s Q E hi st hQ => (Walks.list (prog := prog) (w := w) hh I ax hne items).item (k + i) s Q E (by omega) st hQ
  done := fun s Q E st hQ => (Walks.list (prog := prog) (w := w) hh I ax hne items).done s Q E (by rw [Nat.add_sub_cancel' hk] at st; exact st) hQ
  self := fun i => (Walks.list (prog := prog) (w := w) hh I ax hne items).self (k + i)
theorem items_from {items : Array Value} {k : Nat} {acc : Array Value} (hk : k ≤ items.size) (h : ItemsOf (fun i v => items[k + i]? = some v) acc (items.size - k)) : acc.toList = items.toList.drop k := by
  refine List.ext_getElem? fun j => ?_
  rw [Array.getElem?_toList, List.getElem?_drop, Array.getElem?_toList]
  cases e : acc[j]? with
  | some v => exact (h.2 j v e).symm
  | none =>
    have : acc.size ≤ j := Array.getElem?_eq_none_iff.mp e
    rw [h.1] at this
    exact (Array.getElem?_eq_none_iff.mpr (by omega)).symm
theorem unpackStar {l : Addr} {items : Array Value} {k : Nat} {Q : List Value → Shared → Prop} (hh : A.handled = none) (hl : s.heap.IsList l items) (hk : k ≤ items.size) (hz : items.size ≤ sizeLine)
    (hQ : ∀ (h' : Heap) (tk : Nat) (a : Addr), (∀ b o, s.heap.get? b = some o → h'.get? b = some o) → s.heap.get? a = none → h'.get? a = some (seqObj "list" (items.toList.drop k).toArray 0) → Q (items.toList.take k ++ [.ref a]) { s with heap := h', toks := tk }) :
    wpAny (model prog w) A (unpackItems (.ref l) (k + 1) (some k)) Q E s := by
  have hlt : l ≠ s.heap.objs.size := by obtain ⟨o, ho, _⟩ := hl; exact Nat.ne_of_lt (Heap.lt_size ho)
  have hll : l < s.heap.objs.size := by obtain ⟨o, ho, _⟩ := hl; exact Heap.lt_size ho
  unfold unpackItems
  refine wpAny_bind ?_
  unfold notIterableAtAll
  refine wpAny_bind (wpAny_specialOf hl.typeIs slot_list_iter.lookup ?_)
  refine wpAny_pure ?_
  simp only [Bool.false_eq_true, if_false]
  refine wpAny_bind (wpAny_holding (wpAny_pyIter_list hl ?_))
  refine wpAny_bind (wpAny_holding (PySem.W.kun_draw hlt k 0 _ _ ⟨_, Heap.get?_push_size _ rfl, rfl, rfl⟩ (hl.push _) (by omega) fun h₁ hit₁ hs₁ => ?_))
  rw [List.drop_zero, Nat.zero_add] at *
  have lt : (items.toList.take k).length = k := by
    rw [List.length_take, Array.length_toList]
    omega
  rw [if_neg (by rw [lt]; omega)]
  have hl₁ : h₁.IsList l items := (hl.push _).extBut hs₁.extBut hlt
  have old₁ : ∀ b o, s.heap.get? b = some o → h₁.get? b = some o := fun b o e => hs₁.extBut b o (Nat.ne_of_lt (Heap.lt_size e)) (Heap.get?_push_of_some _ e)
  have sz₁ : s.heap.objs.size < h₁.objs.size := by
    obtain ⟨o, ho, _⟩ := hit₁
    exact Heap.lt_size ho
  have W := (listFrom (prog := prog) (w := w) (A := A.in1) hh s.heap.objs.size l hlt items k hk).toS
  refine wpAny_bind (wpAny_holding (wpAny_collect_iter (T := "list_iterator") (by simp) W (fun i s2 st => ?_) (show _ ∧ _ from ⟨by rw [Nat.add_zero]; exact hit₁, hl₁⟩) (fun b hb => ?_) (by simp) (fun s' acc mv ai => ?_) (by omega)))
  · obtain ⟨⟨o, ho, hc, _⟩, _⟩ := st
    exact ⟨o, ho, hc⟩
  · have : b = s.heap.objs.size ∨ b = l := by simpa using hb
    show b < h₁.objs.size
    rcases this with rfl | rfl
    · exact sz₁
    · exact Nat.lt_trans hll sz₁
  have es : s' = { s with heap := s'.heap, toks := s'.toks } := by
    obtain ⟨a1, a2, a3, a4, a5⟩ := mv
    cases s'
    cases s
    simp_all
  rw [items_from hk ai]
  rw [if_neg (by omega)]
  have e0 : k + 1 - 1 - k = 0 := by omega
  rw [e0, Nat.sub_zero]
  simp only [List.take_length, List.drop_length, List.append_nil]
  have old₂ : ∀ b o, s.heap.get? b = some o → s'.heap.get? b = some o := fun b o e => mv.heap b o (by
    intro z
    have : b = s.heap.objs.size := by simpa using z
    exact Nat.ne_of_lt (Heap.lt_size e) this) (old₁ b o e)
  refine wpAny_bind (wpAny_newList ?_ (by rw [List.length_drop, Array.length_toList]; omega))
  refine wpAny_pure ?_
  rw [es]
  refine hQ _ _ _ (fun b o e => Heap.get?_push_of_some _ (old₂ b o e)) ?_ (Heap.get?_push_size _ rfl)
  cases z : s.heap.get? s'.heap.objs.size with
  | none => rfl
  | some o => exact absurd (Heap.lt_size (old₂ _ o z)) (Nat.lt_irrefl _)
end
/-- a, .., *rest = a list -/
def gStarL (K : PySem.W.Frag) (k : Nat) (t : TGs) : TG := fun v σ H Q => ∃ a xs, v = .ref a ∧ SqL K H a xs ∧ k ≤ xs.length ∧ ∀ b, H b = none → t (xs.take k ++ [.ref b]) σ (upd H b (.lst (xs.drop k))) Q
def gStar (k : Nat) (t : TDGs) : TDG := fun d δ h R => ∃ es, sqv h d = some (true, es) ∧ k ≤ es.length ∧ t (es.take k ++ [.lst (es.drop k)]) δ h R
theorem vals_take {vs : List V} {us : List Value} (r : Vals vs us) : ∀ k, Vals (vs.take k) (us.take k) := by
  induction r with
  | nil => intro k; rw [List.take_nil, List.take_nil]; exact .nil
  | cons a b ih =>
    intro k
    cases k with
    | zero => exact .nil
    | succ k => exact .cons a (ih k)
theorem vals_drop {vs : List V} {us : List Value} (r : Vals vs us) : ∀ k, Vals (vs.drop k) (us.drop k) := by
  induction r with
  | nil => intro k; rw [List.drop_nil, List.drop_nil]; exact .nil
  | cons a b ih =>
    intro k
    cases k with
    | zero => exact .cons a b
    | succ k => exact ih k
theorem vals_one {vs : List V} {us : List Value} {v : V} {u : Value} (r : Vals vs us) (x : RelV v u) : Vals (vs ++ [v]) (us ++ [u]) := by
  induction r with
  | nil => exact .cons x .nil
  | cons a b ih => exact .cons a ih
section
variable {X : Cx} {pos : Pos}
theorem pgs_star {e : Expr} {es : List Expr} {p : Pos} {t : TG} {u : TGs} (h1 : PG X e t) (h2 : PGs X es u)
    (hs : (assignEach (.Starred e p :: es) X.env).map (·.2) = assign e X.env :: (assignEach es X.env).map (·.2) := by rfl) : PGs X (.Starred e p :: es) (L2.gCons t u) := by
  refine ⟨fun pins s σ H vs us Q I r h => ?_⟩
  obtain ⟨v, vr, e1, h⟩ := h
  subst e1
  cases r with
  | cons r rr =>
    rw [hs]
    refine assignInOrder_cons (thn (h1.run pins s σ H _ _ _ I r h) fun _ s1 ⟨σ1, H1, I1, q1⟩ => ?_)
    exact h2.run pins s1 σ1 H1 _ _ Q I1 rr q1
theorem pg_star {es : List Expr} {k : Nat} {t : TGs} {n : Nat} (hc : X.calm = true) (h : PGs X es t)
    (hn : (assignEach es X.env).length = n + 1) (hst : (assignEach es X.env).findIdx? (·.1) = some n) : PG X (.Tuple es k pos) (gStarL X.K n t) := by
  refine ⟨fun pins s σ H v u Q I r hw => ?_⟩
  obtain ⟨a, xs, e1, hq, hl, hw⟩ := hw
  subst e1
  cases r
  obtain ⟨its, rv, pl, hz⟩ := I.list hq
  rw [PyProof.Rows.assign_Tuple]
  refine wpAny_bind (wpAny_standAt ?_)
  unfold unpack
  rw [hn, hst]
  have hlen := rv.length
  refine wpAny_bind (wpAny_holding (unpackStar (I.ok.hd hc) pl.isList (by simp; omega) (by simp; omega) fun h' tk b old new ob => ?_))
  have hb : H b = none := I.hok.gone new
  have I1 : Inv X pins σ (upd H b (.lst (xs.drop n))) { s with heap := h', toks := tk } := I.laidN old new hb (show ObjOk X.prog X.w _ _ _ (.lst (xs.drop n)) from ⟨by rw [List.length_drop]; omega, its.drop n, 0, vals_drop rv n, by simpa using ob⟩)
  · refine h.run pins _ σ _ (xs.take n ++ [.ref b]) _ Q I1 ?_ (hw b hb)
    have e : its.toArray.toList.take n = its.take n := by simp
    rw [e]
    exact vals_one (vals_take rv n) rfl
theorem gs_star {e : Expr} {es : List Expr} {p : Pos} {t : TDG} {u : TDGs} (h1 : DG X e t) (h2 : DGs X es u)
    (hs : (assignEach (.Starred e p :: es) X.env).map (·.2) = assign e X.env :: (assignEach es X.env).map (·.2) := by rfl) : DGs X (.Starred e p :: es) (gsCons t u) :=
  PGs.imp (pgs_star h1 h2 hs) fun vs σ H Q ⟨I, ds, δ, h, R, sr, hr, rd, ⟨d, r, e, q⟩, g⟩ => by
    subst e
    cases rd with
    | cons a b =>
      exact ⟨_, _, rfl, I, d, δ, h, _, sr, hr, a, q, fun δ1 h1 I1 H1 σ1 q1 s1 hr1 sr1 => ⟨I1, r, δ1, h1, R, sr1, hr1, b.step s1, q1, g.after s1⟩⟩
theorem g_star {es : List Expr} {k : Nat} {t : TDGs} {n : Nat} (hc : X.calm = true) (h : DGs X es t)
    (hn : (assignEach es X.env).length = n + 1 := by rfl) (hst : (assignEach es X.env).findIdx? (·.1) = some n := by rfl) : DG X (.Tuple es k pos) (gStar n t) :=
  PG.imp (pg_star hc h hn hst) fun v σ H Q ⟨I, d, δ, h, R, sr, hr, rd, ⟨ds, e, hl, q⟩, g⟩ => by
    obtain ⟨p, xs, rfl, hs, rs⟩ := sqv_ok hr rd e
    rcases hs with ⟨_, hs⟩ | ⟨hk, _⟩
    · refine ⟨p, xs, rfl, hs, by rw [← rs.length]; exact hl, fun b hb => ?_⟩
      have st : Stp I H I (upd H b (.lst (xs.drop n))) := Stp.new hb
      refine ⟨I, _, δ, h, R, sr.step st, hr.new hb, ?_, q, g.after st⟩
      exact ((rs.take n).step st).append (.cons (.lst upd_same (hr.fresh hb) ((rs.drop n).step st)) .nil)
    · cases hk
end
def yStar (k : Nat) (ys : YGs) : YG := fun d σ => match d with
  | .lst es => if k ≤ es.length then ys (es.take k ++ [.lst (es.drop k)]) σ else none
  | _ => none
theorem v_gStar {P : List Nat} {n : Nat} {gs : TDGs} {ys : YGs} (a : SGs P gs ys) : SG P (gStar n gs) (yStar n ys) := fun d σ σ' e δ h c R r q => by
  cases d with
  | lst ds =>
    unfold yStar at e
    dsimp only at e
    split at e
    · rename_i z
      exact ⟨ds, rfl, z, a _ σ σ' e δ h c R r q⟩
    · cases e
  | _ => cases e
/-- a new list, taken apart at once -/
def xAsgS (x : XF) (k : Nat) (ys : YGs) : XS := fun σ => (x σ).bind fun p => match p.1 with
  | .l ds => if k ≤ ds.length then (ys (ds.take k ++ [.lst (ds.drop k)]) p.2).map .nx else none
  | _ => none
theorem v_asgS {P : List Nat} {te : TDE} {xe : XF} {n : Nat} {gs : TDGs} {ys : YGs} (a : SF te xe) (b : SGs P gs ys) : SS P (dAsg te (gStar n gs)) (xAsgS xe n ys) := fun σ o e δ h c E r q => by
  obtain ⟨⟨w, σ1⟩, e1, e⟩ := bind_some e
  refine a σ w σ1 e1 δ h c _ r fun d h1 c1 S r1 ch1 rp fr => ?_
  dsimp only at e
  split at e
  · rename_i ds
    split at e
    · rename_i z
      obtain ⟨σ2, e2, e3⟩ := map_some e
      cases e3
      obtain ⟨m, rfl, sn, hn⟩ := rp
      have hn' : h1[m]? = some (.lst ds) := hn
      refine ⟨ds, ?_, z, b _ σ1 σ2 e2 δ h1 c1 _ r1 fun δ2 c2 r2 ch2 fx => q δ2 h1 c2 r2 (ch1.trans ch2) fx⟩
      show (match h1[m]? with
        | some (O.lst ds) => some (true, ds)
        | _ => none) = _
      rw [hn']
    · cases e
  · cases e
/-! ### enumerate -/
def iEn (x : XE) : XI := fun σ => (x σ).bind fun p => match p.1 with
  | .lst ds => some ((enumD ds, gdT), p.2)
  | _ => none
def iEnP (i : Nat) : XI := fun σ => match σ[i]? with
  | some (some (.l ds)) => some ((enumD ds, fun σ2 => σ2[i]? = some (some (.l ds))), σ)
  | _ => none
section
variable {P : List Nat} {te : TDE} {xe : XE}
theorem v_iEn (a : SE te xe) : SI P (iEnumD te) (iEn xe) := fun σ its gd σ' e δ h c RS r q => by
  obtain ⟨⟨d, σ1⟩, e1, e⟩ := bind_some e
  refine a σ d σ1 e1 δ h c _ r fun h1 c1 r1 ch1 => ?_
  dsimp only at e
  split at e
  · rename_i ds
    cases e
    exact ⟨ds, rfl, q h1 c1 _ r1 ch1 fun _ _ _ _ _ _ _ _ => rfl⟩
  · cases e
theorem v_iEnP {i : Nat} (hi : i ∈ P) : SI P (iEnumD (dVar i)) (iEnP i) := fun σ its gd σ' e δ h c RS r q => by
  unfold iEnP at e
  split at e
  · rename_i ds z
    cases e
    obtain ⟨d, e1, n, rfl, cn, hn⟩ := r.look i _ z
    have sq : ∀ {g : OS}, g[n]? = some (.lst ds) → sqv g (.ref n) = some (true, ds) := fun e => by
      show (match _ with
        | some (O.lst ds) => some (true, ds)
        | _ => none) = _
      rw [e]
    refine ⟨_, e1, ds, sq hn, q h c _ r Ch.refl fun σ2 δ2 h2 c2 r2 ch2 fx g => ?_⟩
    obtain ⟨d2, e2, n2, rfl, cn2, hn2⟩ := r2.look i _ g
    rw [fx i hi, e1] at e2
    cases e2
    exact sq hn2
  · cases e
end
/-! ### a list so many times -/
def fRep : F2 := fun x y h R => ∃ xs n, lsv h x = some xs ∧ y = .int n ∧ -(2 ^ 63) ≤ n ∧ n < 2 ^ 63 ∧ xs.length * n.toNat ≤ 16777216 ∧ R (.lst (List.replicate n.toNat xs).flatten) h
theorem rds_rep {K : Fg} {H : Hp} {I : List Addr} {ds : List D} {vs : List V} (r : RDs K H I ds vs) : ∀ n, RDs K H I (List.replicate n ds).flatten (List.replicate n vs).flatten
  | 0 => .nil
  | n + 1 => r.append (rds_rep r n)
theorem o_rep {X : Cx} : DOp X (binaryOp .Mult) fRep := by
  intro pins s σ H x y v u Q J rx ry ⟨I, dx, dy, h, R, hr, rdx, rdy, ⟨xs, n, e1, e2, n0, n1, hz, hR⟩, go⟩
  subst e2
  cases rdy
  obtain ⟨p, vs, rfl, q1, r1⟩ := lsv_ok hr rdx e1
  exact op_rep pins s σ H _ _ v u Q J rx ry ⟨p, n, vs, rfl, rfl, q1, n0, n1, by rw [← r1.length]; exact hz, go.lst hR hr (rds_rep r1 n.toNat)⟩
def gRep : G2 := fun x y => match x, y with
  | .lst xs, .int n => if -(2 ^ 63) ≤ n ∧ n < 2 ^ 63 ∧ xs.length * n.toNat ≤ 16777216 then some (.lst (List.replicate n.toNat xs).flatten) else none
  | _, _ => none
theorem b_rep : Bi2 fRep gRep := by
  intro a a' b b' r h R e va vb q
  unfold gRep at e
  split at e
  · split at e
    · rename_i z
      cases e
      rw [vb.int]
      exact ⟨_, _, va.lsv, rfl, z.1, z.2.1, z.2.2, q⟩
    · cases e
  · cases e
end FL
end
section
/-! The value layer: stepping, what VL11 brings. -/
namespace FL
open PySem PySem.Spec PyProof.Rows L2
open Classical
section
variable {σ : VS} {i : Nat} {xa : XE} {N : VS → Prop}
theorem e_iEn {K : QI} : WE (iEn xa σ) (q := ⟨K⟩) = WE (xa σ) (q := ⟨fun a σ1 => W1 (match a with | .lst ds => some ds | _ => none) (q := ⟨fun ds => K (enumD ds, gdT) σ1⟩)⟩) := by
  unfold iEn
  cases xa σ with
  | none => rfl
  | some p =>
    obtain ⟨d, σ1⟩ := p
    cases d <;> rfl
theorem e_iEnP {K : QI} : WE (iEnP i σ) (q := ⟨K⟩) = WO σ[i]? (q := ⟨fun w => WLs w (q := ⟨fun ds => K (enumD ds, fun σ2 => σ2[i]? = some (some (.l ds))) σ⟩)⟩) := by
  unfold iEnP
  cases σ[i]? with
  | none => rfl
  | some u =>
    cases u with
    | none => rfl
    | some w => cases w <;> rfl
theorem e_yStar {ygs : YGs} {n : Nat} {ds : List D} : W1 (yStar n ygs (.lst ds) σ) (q := ⟨N⟩) = WC (n ≤ ds.length) (W1 (ygs (ds.take n ++ [.lst (ds.drop n)]) σ) (q := ⟨N⟩)) := by
  show W1 (if n ≤ ds.length then ygs (ds.take n ++ [.lst (ds.drop n)]) σ else none) (q := ⟨N⟩) = _
  by_cases z : n ≤ ds.length
  · rw [if_pos z]
    exact propext ⟨fun h => ⟨z, h⟩, fun h => h.2⟩
  · rw [if_neg z]
    exact propext ⟨fun h => h.elim, fun h => z h.1⟩
theorem e_asgS {ygs : YGs} {n : Nat} {xf : XF} {R : W → VS → Prop} {B C : VS → Prop} : WS (xAsgS xf n ygs σ) (n := ⟨N⟩) (r := ⟨R⟩) (b := ⟨B⟩) (c := ⟨C⟩) = WE (xf σ) (q := ⟨fun w σ1 => WLs w (q := ⟨fun ds => WC (n ≤ ds.length) (W1 (ygs (ds.take n ++ [.lst (ds.drop n)]) σ1) (q := ⟨N⟩))⟩)⟩) := by
  unfold xAsgS
  cases xf σ with
  | none => rfl
  | some p =>
    obtain ⟨w, σ1⟩ := p
    cases w with
    | l ds =>
      show WS (if n ≤ ds.length then (ygs (ds.take n ++ [.lst (ds.drop n)]) σ1).map .nx else none) (n := ⟨N⟩) (r := ⟨R⟩) (b := ⟨B⟩) (c := ⟨C⟩) = WC (n ≤ ds.length) (W1 (ygs (ds.take n ++ [.lst (ds.drop n)]) σ1) (q := ⟨N⟩))
      by_cases z : n ≤ ds.length
      · rw [if_pos z]
        have e : WS ((ygs (ds.take n ++ [.lst (ds.drop n)]) σ1).map .nx) (n := ⟨N⟩) (r := ⟨R⟩) (b := ⟨B⟩) (c := ⟨C⟩) = W1 (ygs (ds.take n ++ [.lst (ds.drop n)]) σ1) (q := ⟨N⟩) := by
          cases ygs (ds.take n ++ [.lst (ds.drop n)]) σ1 <;> rfl
        rw [e]
        exact propext ⟨fun h => ⟨z, h⟩, fun h => h.2⟩
      · rw [if_neg z]
        exact propext ⟨fun h => h.elim, fun h => z h.1⟩
    | _ => rfl
theorem g_rep {xs : List D} {n : Int} {K : D → Prop} : W1 (gRep (.lst xs) (.int n)) (q := ⟨K⟩) = WC (-(2 ^ 63) ≤ n ∧ n < 2 ^ 63 ∧ xs.length * n.toNat ≤ 16777216) (K (.lst (List.replicate n.toNat xs).flatten)) := ite_w1
theorem enum_at {ds : List D} {k : Nat} {d : D} (e : (enumD ds)[k]? = some d) : ∃ x, ds[k]? = some x ∧ d = .tup [.int (k : Nat), x] := by
  unfold enumD at e
  rw [List.getElem?_mapIdx] at e
  cases h : ds[k]? with
  | none =>
    rw [h] at e
    cases e
  | some x =>
    rw [h] at e
    cases e
    exact ⟨x, rfl, rfl⟩
theorem enum_len {ds : List D} : (enumD ds).length = ds.length := by
  unfold enumD
  exact List.length_mapIdx
end
end FL
end
section
/-! The value layer: min of a list, isinstance by a type of Python's own. -/
namespace FL
open PySem PySem.Spec PyProof.Rows L2
open Classical

def fMin1 : FA := fun ds h R => ∃ (x : D) (ns : List Int), ds = [x] ∧ sqv h x = some (true, ns.map D.int) ∧ 0 < ns.length ∧ ∀ m ∈ ns, (∀ y ∈ ns, m ≤ y) → R (.int m) h
section
variable {X : Cx}
theorem o_min1 (hc : X.calm = true) : DC X (.builtin "min") fMin1 := by
  intro pins s σ H xs us Q J r ⟨I, ds, h, R, hr, rd, ⟨x, ns, e, e1, hl, hR⟩, go⟩
  subst e
  obtain ⟨v, rfl, rx⟩ := rd.one
  obtain ⟨p, ws, rfl, hs, rs⟩ := sqv_ok hr rx e1
  have := rs.ints
  subst this
  rcases hs with ⟨_, hs⟩ | ⟨hk, hs⟩
  · exact cr_min hc pins s σ H _ us Q J r ⟨p, ns, rfl, hs, hl, fun m h1 h2 => go.now (hR m h1 h2) hr (.int _)⟩
  · cases hk
end
def minI : List Int → Option Int
  | [] => none
  | a :: r => some (r.foldl (fun x y => if y < x then y else x) a)
theorem minI_is : ∀ (r : List Int) (a : Int), (r.foldl (fun x y => if y < x then y else x) a) ≤ a ∧ (∀ y ∈ r, (r.foldl (fun x y => if y < x then y else x) a) ≤ y) ∧ ((r.foldl (fun x y => if y < x then y else x) a) = a ∨ (r.foldl (fun x y => if y < x then y else x) a) ∈ r)
  | [], a => ⟨Int.le_refl a, fun y h => (by cases h), Or.inl rfl⟩
  | b :: r, a => by
    have ih := minI_is r (if b < a then b else a)
    rw [List.foldl_cons]
    obtain ⟨i1, i2, i3⟩ := ih
    have hz : (if b < a then b else a) ≤ a ∧ (if b < a then b else a) ≤ b := by split <;> omega
    refine ⟨?_, fun y hy => ?_, ?_⟩
    · exact Int.le_trans i1 hz.1
    · rcases List.mem_cons.mp hy with z | z
      · subst z
        exact Int.le_trans i1 hz.2
      · exact i2 y z
    · rcases i3 with z | z
      · rw [z]
        split
        · exact Or.inr (List.mem_cons_self ..)
        · exact Or.inl rfl
      · exact Or.inr (List.mem_cons_of_mem _ z)
theorem minI_eq {ns : List Int} {m k : Int} (e : minI ns = some k) (h1 : m ∈ ns) (h2 : ∀ y ∈ ns, m ≤ y) : m = k := by
  cases ns with
  | nil => cases e
  | cons a r =>
    have e' : r.foldl (fun x y => if y < x then y else x) a = k := Option.some.inj e
    have i := minI_is r a
    rw [e'] at i
    have k1 : m ≤ k := by
      rcases i.2.2 with z | z
      · rw [z]
        exact h2 a (List.mem_cons_self ..)
      · exact h2 k (List.mem_cons_of_mem _ z)
    have k2 : k ≤ m := by
      rcases List.mem_cons.mp h1 with z | z
      · rw [z]
        exact i.1
      · exact i.2.1 m z
    omega
def gMin1 : G1 := fun x => match sqv [] x with
  | some (true, es) => (asInts es).bind fun ns => (minI ns).map D.int
  | _ => none
theorem ba_min1 : Ba1 fMin1 gMin1 := by
  intro a a' r h R e va q
  unfold gMin1 at e
  split at e
  · rename_i es e1
    obtain ⟨ns, e2, e3⟩ := bind_some e
    obtain ⟨k, e4, e5⟩ := map_some e3
    subst e5
    rw [asInts_ok e2] at e1
    refine ⟨_, ns, rfl, va.sqv e1, ?_, fun m h1 h2 => ?_⟩
    · cases ns with
      | nil => cases e4
      | cons a r => exact Nat.succ_pos _
    · rw [minI_eq e4 h1 h2]
      exact q
  · cases e
theorem g_min1 {ns : List Int} {k : Int} (e : minI ns = some k) : gMin1 (.lst (ns.map D.int)) = some (.int k) := by
  show (asInts (ns.map D.int)).bind (fun ns => (minI ns).map D.int) = _
  rw [asInts_of]
  show (minI ns).map D.int = _
  rw [e]
  rfl
theorem minI_of {ns : List Int} {m : Int} (h1 : m ∈ ns) (h2 : ∀ y ∈ ns, m ≤ y) : minI ns = some m := by
  cases h : minI ns with
  | none =>
    cases ns with
    | nil => cases h1
    | cons a r => cases h
  | some k => rw [minI_eq h h1 h2]
/-! ### isinstance -/
/-- the type of a thing read, where it is one of these -/
def tyN : D → Option String
  | .non => some "NoneType"
  | .bl _ => some "bool"
  | .int _ => some "int"
  | .str _ => some "str"
  | .tup _ => some "tuple"
  | .lst _ => some "list"
  | .scr _ => some "list"
  | .dct _ _ => some "dict"
  | _ => none
def isB (t n : String) : Option Bool :=
  if n = "tuple" ∨ n = "str" ∨ n = "int" ∨ n = "bool" ∨ n = "list" then some (decide (t = n) || (decide (t = "bool") && decide (n = "int"))) else none
def fIsi : FA := fun ds h R => ∃ (x : D) (n t : String) (b : Bool), ds = [x, .ty n] ∧ tyN x = some t ∧ isB t n = some b ∧ R (.bl b) h
theorem isB_ok {K : Fg} {x : D} {t n : String} {b : Bool} (ht : tyN x = some t) (e : isB t n = some b) : PySem.W.kitOne K (.type t) (.type n) = some b := by
  have hn : n = "tuple" ∨ n = "str" ∨ n = "int" ∨ n = "bool" ∨ n = "list" := by
    unfold isB at e
    split at e
    · assumption
    · cases e
  have htt : t = "NoneType" ∨ t = "bool" ∨ t = "int" ∨ t = "str" ∨ t = "tuple" ∨ t = "list" ∨ t = "dict" := by
    cases x <;> cases ht <;> simp
  rw [← e]
  rcases hn with rfl | rfl | rfl | rfl | rfl <;> rcases htt with rfl | rfl | rfl | rfl | rfl | rfl | rfl <;> first | rfl | kernel_rfl
theorem tyX_of {K : Fg} {H : Hp} {I : List Addr} {x : D} {v : V} {t : String} (r : RD K H I x v) (e : tyN x = some t) : TyX K H v (.type t) := by
  cases r with
  | non => cases e; exact .base .non
  | bl b => cases e; exact .base (.bl b)
  | int i => cases e; exact .base (.int i)
  | str x => cases e; exact .base (.str x)
  | tup h r =>
    cases e
    rcases h with ⟨h | ⟨o, h⟩, _⟩ | h
    · exact .base (.tup h)
    · exact .fTuple h
    · rcases h with (h | ⟨o, h⟩) | ⟨o, its, n, h1, h2, _⟩
      · cases h
      · cases h
      · exact .kTuple h1 h2
  | lst h n r => cases e; exact .base (.lst h)
  | scr h r =>
    cases e
    rcases h with ⟨o, h, _⟩ | h
    · exact .base (.frz h)
    · rcases h with (h | ⟨o, h⟩) | ⟨o, its, n, h1, h2, _⟩
      · cases h
      · cases h
      · exact .kList h1 h2
  | dct h n hk r =>
    cases e
    rcases h with h | ⟨o, h⟩
    · exact .base (.dK h)
    · exact .fDict h
  | _ => cases e
section
variable {X : Cx}
theorem o_isi : DC X (.builtin "isinstance") fIsi := by
  intro pins s σ H xs us Q J r ⟨I, ds, h, R, hr, rd, ⟨x, n, t, b, e, e1, e2, hR⟩, go⟩
  subst e
  cases rd with
  | cons r1 rr =>
    cases rr with
    | cons r2 rn =>
      cases rn
      cases r2
      exact call_isi pins s σ H _ us Q J r ⟨_, _, _, _, b, rfl, .ty n, tyX_of r1 e1, isB_ok e1 e2, go.now hR hr (.bl _)⟩
theorem d_ty {x : Str} {n : String} {pos : Pos} (hg : Gl X x) (hm : X.mg x = none) (hv : bootBuiltins x = some (.type n)) (hn : x ≠ "__name__" := by decide) (hd : (x == ("__debug__" : Str)) = false := by decide) : DE X (.Name x pos) (dC (.ty n)) :=
  dc_of (pe_bltn (v := .ty n) hg hm hv rfl hn hd) fun _ _ => .ty n
end
def gIsi : G2 := fun x y => match y with
  | .ty n => (tyN x).bind fun t => (isB t n).map D.bl
  | _ => none
theorem ba_isi : Ba2 fIsi gIsi := by
  intro a b r h R e q
  unfold gIsi at e
  split at e
  · obtain ⟨t, e1, e2⟩ := bind_some e
    obtain ⟨c, e3, e4⟩ := map_some e2
    subst e4
    exact ⟨a, _, t, c, rfl, e1, e3, q⟩
  · cases e
theorem g_isi {x : D} {t n : String} {b : Bool} (e1 : tyN x = some t) (e2 : isB t n = some b) : gIsi x (.ty n) = some (.bl b) := by
  show (tyN x).bind (fun t => (isB t n).map D.bl) = _
  rw [e1]
  show (isB t n).map D.bl = _
  rw [e2]
  rfl
end FL
end
section
/-! The value layer: x in a list of plain things. -/
namespace FL
open PySem PySem.Spec PyProof.Rows L2
open Classical
/-- x in xs, plain things -/
def fInP (neg : Bool) : F2 := fun x y h R => ∃ (ds : List D) (p : PyData) (ps : List PyData), sqv h y = some (true, ds) ∧ toP (vw h x) = some p ∧ toPs ds = some ps ∧ SeqAt.shaped p = true ∧ (∀ q ∈ ps, SeqAt.shaped q = true) ∧ R (.bl (if neg then !(ps.any fun q => PyData.eqv q p) else ps.any fun q => PyData.eqv q p)) h
section
variable {X : Cx} {pins : List (Addr × Obj)} {σ : L2.St} {H : Hp} {s : Shared}
theorem any_data {f : Value → Bool} {p : PyData} : ∀ {us : List Value} {ps : List PyData} {as : List Addr}, ReadsAll s.heap us ps as → (∀ u q bs, u ∈ us → q ∈ ps → Reads s.heap u q bs → f u = PyData.eqv q p) → us.any f = ps.any fun q => PyData.eqv q p
  | [], _, _, r, _ => by
    cases r
    rfl
  | u :: us, _, _, r, h => by
    cases r with
    | cons r1 r2 =>
      rw [List.any_cons, List.any_cons, h u _ _ (List.mem_cons_self ..) (List.mem_cons_self ..) r1, any_data r2 fun u q bs hu hq => h u q bs (List.mem_cons_of_mem _ hu) (List.mem_cons_of_mem _ hq)]
theorem reads_mem : ∀ {us : List Value} {ps : List PyData} {as : List Addr}, ReadsAll s.heap us ps as → ∀ u ∈ us, ∃ q ∈ ps, ∃ bs, Reads s.heap u q bs
  | [], _, _, _, u, hu => by cases hu
  | _ :: _, _, _, r, u, hu => by
    cases r with
    | cons r1 r2 =>
      rcases List.mem_cons.mp hu with z | z
      · subst z
        exact ⟨_, List.mem_cons_self .., _, r1⟩
      · obtain ⟨q, hq, bs, r⟩ := reads_mem r2 u z
        exact ⟨q, List.mem_cons_of_mem _ hq, bs, r⟩
noncomputable def eqTo (h : Heap) (p : PyData) (u : Value) : Bool := decide (∃ q bs, Reads h u q bs ∧ SeqAt.shaped q = true ∧ PyData.eqv q p = true)
theorem eqTo_is {h : Heap} {p q : PyData} {u : Value} {bs : List Addr} (r : Reads h u q bs) (sq : SeqAt.shaped q = true) : eqTo h p u = PyData.eqv q p := by
  unfold eqTo
  cases e : PyData.eqv q p with
  | true => exact decide_eq_true ⟨q, bs, r, sq, e⟩
  | false =>
    refine decide_eq_false fun ⟨q', bs', r', s', e'⟩ => ?_
    have := SeqAt.Reads.unique q q' u bs bs' (SeqAt.canLay_of_shaped sq) r r'
    subst this
    rw [e] at e'
    cases e'
end
section
variable {X : Cx}
theorem units65 {k : Nat} {A : Around} (r : Room k A) : A.units + 65 < cLine := by
  have := r.un
  omega
theorem o_inP (hu : X.A.units + 65 < cLine) : DOp X (compareOp .In) (fInP false) := by
  intro pins s σ H x y v u Q J rx ry ⟨I, dx, dy, h, R, hr, rdx, rdy, ⟨ds, p, ps, e1, e2, e3, s1, s2, hR⟩, go⟩
  obtain ⟨a, xs, rfl, hs, rs⟩ := sqv_ok hr rdy e1
  rcases hs with ⟨_, hs⟩ | ⟨hk, _⟩
  · cases ry
    obtain ⟨its, rv, pl, hz⟩ := J.list hs
    obtain ⟨as, r1⟩ := Dp.reads J p x v (dp_vw hr rdx e2) rx
    obtain ⟨bs, r2⟩ := Dp.readsAll J ps xs its (dps_of rs e3) rv
    refine SeqAt.in_listAt (eqTo s.heap p) pl.isList (fun w hw => ?_) ⟨.bl _, H, J, rfl, ?_⟩
    · obtain ⟨q, hq, cs, r3⟩ := reads_mem r2 w (by simpa using hw)
      rw [eqTo_is r3 (s2 q hq)]
      exact PySem.W.keq_at (A := X.A) r3 r1 (s2 q hq) s1 (show X.A.units + 1 + 64 < cLine by omega)
    · rw [show its.toArray.any (eqTo s.heap p) = its.any (eqTo s.heap p) by simp, any_data r2 fun u q bs _ hq r => eqTo_is r (s2 q hq)]
      exact go.now hR hr (.bl _)
  · cases hk
theorem o_notInP (hu : X.A.units + 65 < cLine) : DOp X (compareOp .NotIn) (fInP true) := by
  intro pins s σ H x y v u Q J rx ry ⟨I, dx, dy, h, R, hr, rdx, rdy, ⟨ds, p, ps, e1, e2, e3, s1, s2, hR⟩, go⟩
  obtain ⟨a, xs, rfl, hs, rs⟩ := sqv_ok hr rdy e1
  rcases hs with ⟨_, hs⟩ | ⟨hk, _⟩
  · cases ry
    obtain ⟨its, rv, pl, hz⟩ := J.list hs
    obtain ⟨as, r1⟩ := Dp.reads J p x v (dp_vw hr rdx e2) rx
    obtain ⟨bs, r2⟩ := Dp.readsAll J ps xs its (dps_of rs e3) rv
    refine SeqAt.notIn_listAt (eqTo s.heap p) pl.isList (fun w hw => ?_) ⟨.bl _, H, J, rfl, ?_⟩
    · obtain ⟨q, hq, cs, r3⟩ := reads_mem r2 w (by simpa using hw)
      rw [eqTo_is r3 (s2 q hq)]
      exact PySem.W.keq_at (A := X.A) r3 r1 (s2 q hq) s1 (show X.A.units + 1 + 64 < cLine by omega)
    · rw [show its.toArray.any (eqTo s.heap p) = its.any (eqTo s.heap p) by simp, any_data r2 fun u q bs _ hq r => eqTo_is r (s2 q hq)]
      exact go.now hR hr (.bl _)
  · cases hk
end
/-- x in xs, on what is read -/
noncomputable def gInP (neg : Bool) : G2 := fun x y => match sqv [] y with
  | some (true, ds) => (match toP x, toPs ds with
    | some p, some ps => if SeqAt.shaped p = true ∧ ∀ q ∈ ps, SeqAt.shaped q = true then some (.bl (if neg then !(ps.any fun q => PyData.eqv q p) else ps.any fun q => PyData.eqv q p)) else none
    | _, _ => none)
  | _ => none
theorem b_inP {neg : Bool} : Bi2 (fInP neg) (gInP neg) := by
  intro a a' b b' r h R e va vb q
  unfold gInP at e
  split at e
  · rename_i ds e1
    split at e
    · rename_i p ps e2 e3
      split at e
      · rename_i z
        cases e
        exact ⟨ds, p, ps, vb.sqv e1, va.toP e2, e3, z.1, z.2, q⟩
      · cases e
    · cases e
  · cases e
/-- a thing of the list is in it -/
theorem g_inP {x : D} {ds : List D} {n m : Nat} {neg : Bool} (h : PDs ds n m) (hm : m ≤ 60) (hx : x ∈ ds) : gInP neg x (.lst ds) = some (.bl (!neg)) := by
  obtain ⟨ps, e, pq⟩ := h
  have key : ∀ (ds : List D) (ps : List PyData), toPs ds = some ps → PyData.canLayAll0 ps = true → PyData.depthAll ps ≤ m → (∀ q ∈ ps, SeqAt.shaped q = true ∧ q.canLay0 = true) ∧ ∀ x ∈ ds, ∃ p ∈ ps, toP x = some p := by
    intro ds
    induction ds with
    | nil =>
      intro ps e _ _
      cases e
      exact ⟨fun q hq => (by cases hq), fun x hx => (by cases hx)⟩
    | cons d ds ih =>
      intro ps e hl hd
      unfold toPs at e
      split at e
      · rename_i p ps' e1 e2
        cases e
        have hl' : (p.canLay0 && PyData.canLayAll0 ps') = true := hl
        rw [Bool.and_eq_true] at hl'
        have hd' : max p.depth (PyData.depthAll ps') ≤ m := hd
        obtain ⟨i1, i2⟩ := ih ps' e2 hl'.2 (by omega)
        refine ⟨fun q hq => ?_, fun x hx => ?_⟩
        · rcases List.mem_cons.mp hq with z | z
          · subst z
            refine ⟨?_, hl'.1⟩
            unfold SeqAt.shaped
            rw [hl'.1, Bool.true_and]
            exact decide_eq_true (by omega)
          · exact i1 q z
        · rcases List.mem_cons.mp hx with z | z
          · subst z
            exact ⟨p, List.mem_cons_self .., e1⟩
          · obtain ⟨p', hp', e'⟩ := i2 x z
            exact ⟨p', List.mem_cons_of_mem _ hp', e'⟩
      · cases e
  obtain ⟨k1, k2⟩ := key ds ps e pq.lay pq.sh.dp
  obtain ⟨p, hp, ep⟩ := k2 x hx
  show (match toP x, toPs ds with
    | some p, some ps => if SeqAt.shaped p = true ∧ ∀ q ∈ ps, SeqAt.shaped q = true then some (D.bl (if neg then !(ps.any fun q => PyData.eqv q p) else ps.any fun q => PyData.eqv q p)) else none
    | _, _ => none) = _
  rw [ep, e]
  dsimp only
  rw [if_pos ⟨(k1 p hp).1, fun q hq => (k1 q hq).1⟩]
  have : (ps.any fun q => PyData.eqv q p) = true := List.any_eq_true.mpr ⟨p, hp, SeqAt.eqv_refl p (k1 p hp).2⟩
  rw [this]
  cases neg <;> rfl
end FL
end
section
/-! zip of lists and tuples, strict or not, as what is walked. -/
namespace FL
open PySem PySem.Spec PyProof.Rows L2
section
variable {prog : Program} {w : World} {A : Around} {E : Value → Shared → Prop} {s : Shared}
theorem zipS_begins {v1 v2 : Value} {o1 o2 : Obj} {H1 H2 : Heap → Prop} {Q : Value → Shared → Prop} (B1 : Begins v1 o1 H1) (B2 : Begins v2 o2 H2) (h1 : H1 s.heap) (h2 : H2 s.heap)
    (h : ∀ h', IsZipS h' (s.heap.objs.size + 4) (s.heap.objs.size + 2) (s.heap.objs.size + 3) .none → IsTupOf2 h' (s.heap.objs.size + 2) (.ref s.heap.objs.size) (.ref (s.heap.objs.size + 1)) →
      IsTupOf2 h' (s.heap.objs.size + 3) .none .none → h'.get? s.heap.objs.size = some o1 → h'.get? (s.heap.objs.size + 1) = some o2 → h'.objs.size = s.heap.objs.size + 5 →
      (∀ c o, s.heap.get? c = some o → h'.get? c = some o) → Q (.ref (s.heap.objs.size + 4)) { s with heap := h' }) :
    wpAny (model prog w) A (call (.type "zip") [v1, v2] [(Str.ofString "strict", .bool true)]) Q E s := by
  refine callType_newKw F.called_zip (by decide) (typeCall_zipS _ _) (newCall_zipS _ _) (fun obj => args_initS obj _ _) F.entry_zip_new
    (meets_zipS B1 B2) ⟨⟨h1, h2⟩, ?_⟩
  have z1 : (s.heap.push o1).objs.size = s.heap.objs.size + 1 := by rw [Heap.size_push]
  have z2 : ((s.heap.push o1).push o2).objs.size = s.heap.objs.size + 2 := by rw [Heap.size_push, z1]
  have zT : (gzT2 s.heap o1 o2).objs.size = s.heap.objs.size + 3 := by rw [Heap.size_push, z2]
  have zO : (gzO2 s.heap o1 o2).objs.size = s.heap.objs.size + 4 := by rw [Heap.size_push, zT]
  have zZ : (gzZS s.heap o1 o2).objs.size = s.heap.objs.size + 5 := by rw [Heap.size_push, zO]
  have gZ : (gzZS s.heap o1 o2).get? (gzO2 s.heap o1 o2).objs.size = some { cls := .type "zip", data := .fields #[.none, .bool false, .bool true, .ref ((s.heap.push o1).push o2).objs.size, .ref (gzT2 s.heap o1 o2).objs.size] } := Heap.get?_push_size _ rfl
  have gO : (gzZS s.heap o1 o2).get? (gzT2 s.heap o1 o2).objs.size = some { cls := .type "tuple", data := .seq #[.none, .none] } := Heap.get?_push_of_some _ (Heap.get?_push_size _ rfl)
  have gT : (gzZS s.heap o1 o2).get? ((s.heap.push o1).push o2).objs.size = some { cls := .type "tuple", data := .seq #[.ref s.heap.objs.size, .ref (s.heap.push o1).objs.size] } := Heap.get?_push_of_some _ (Heap.get?_push_of_some _ (Heap.get?_push_size _ rfl))
  have g1 : (gzZS s.heap o1 o2).get? s.heap.objs.size = some o1 := Heap.get?_push_of_some _ (Heap.get?_push_of_some _ (Heap.get?_push_of_some _ (Heap.get?_push_of_some _ (Heap.get?_push_size _ B1.free))))
  have g2 : (gzZS s.heap o1 o2).get? (s.heap.push o1).objs.size = some o2 := Heap.get?_push_of_some _ (Heap.get?_push_of_some _ (Heap.get?_push_of_some _ (Heap.get?_push_size _ B2.free)))
  rw [zO, zT, z2] at gZ
  rw [zT] at gO
  rw [z2, z1] at gT
  rw [z1] at g2
  show _ ∧ _
  rw [zO]
  exact ⟨⟨_, gZ, rfl⟩, h _ gZ gT gO g1 g2 zZ fun c o e => Heap.get?_push_of_some _ (Heap.get?_push_of_some _ (Heap.get?_push_of_some _ (Heap.get?_push_of_some _ (Heap.get?_push_of_some _ e))))⟩
end
/-! ### of either kind -/
def SqK (K : PySem.W.Frag) (H : Hp) (k : Bool) (p : Addr) (xs : List V) : Prop := match k with
  | true => SqL K H p xs
  | false => SqT K H p xs
def ItrK (k : Bool) (h : Heap) (it l : Addr) (i : Nat) : Prop := match k with
  | true => h.IsListIter it l i
  | false => h.IsTupleIter it l i
def ItsK (k : Bool) (h : Heap) (l : Addr) (items : Array Value) : Prop := match k with
  | true => h.IsList l items
  | false => h.IsTuple l items
def objK (k : Bool) (l : Addr) : Obj := match k with
  | true => { cls := .type "list_iterator", data := .fields #[.ref l, .int 0 0] }
  | false => { cls := .type "tuple_iterator", data := .fields #[.ref l, .int 0 0] }
theorem Draws.kind {prog : Program} {w : World} {A : Around} (hh : A.handled = none) (k : Bool) (it l : Addr) (hne : l ≠ it) (items : Array Value) :
    Draws prog w A it [it, l] items.size (fun i v => items[i]? = some v) (fun i h => ItrK k h it l i ∧ ItsK k h l items) := by
  cases k
  · exact Draws.tuple hh it l hne items
  · exact Draws.list hh it l hne items
theorem begins_k (k : Bool) (l : Addr) (items : Array Value) : Begins (.ref l) (objK k l) fun h => ItsK k h l items := by
  cases k
  · exact begins_tuple l items
  · exact begins_list l items
theorem itr_of {k : Bool} {h : Heap} {it l : Addr} (e : h.get? it = some (objK k l)) : ItrK k h it l 0 := by
  cases k
  · exact ⟨_, e, rfl, rfl⟩
  · exact ⟨_, e, rfl, rfl⟩
theorem ItrK.get {k : Bool} {h : Heap} {it l : Addr} {i : Nat} (x : ItrK k h it l i) : ∃ o, h.get? it = some o ∧ ∀ v, o.data ≠ .cell v := by
  cases k
  all_goals
    obtain ⟨o, e, _, d⟩ := x
    exact ⟨o, e, fun v q => by rw [d] at q; cases q⟩
theorem ItrK.at {k : Bool} {h h' : Heap} {it l : Addr} {i : Nat} (x : ItrK k h it l i) (e : ∀ o, h.get? it = some o → h'.get? it = some o) : ItrK k h' it l i := by
  cases k
  · exact Heap.IsTupleIter.at x e
  · exact Heap.IsListIter.at x e
section
variable {X : Cx} {pins : List (Addr × Obj)} {σ : L2.St} {H : Hp} {s : Shared} {a : Addr} {xs ys : List V} {k : Bool}
theorem inv_sq (I : Inv X pins σ H s) (h : SqK X.K H k a xs) : ∃ its : List Value, Vals xs its ∧ ItsK k s.heap a its.toArray := by
  cases k
  · obtain ⟨its, r, p, _⟩ := I.tuple h
    exact ⟨its, r, p⟩
  · obtain ⟨its, r, p, _⟩ := I.list h
    exact ⟨its, r, p.isList⟩
theorem sq_inj (I : Inv X pins σ H s) (h : SqK X.K H k a xs) (h' : SqK X.K H k a ys) : xs = ys := by
  cases k
  · exact I.tuple_inj h h'
  · exact I.list_inj h h'
theorem ItsK.lt {h : Heap} {items : Array Value} (x : ItsK k h a items) : a < h.objs.size := by
  cases k
  · obtain ⟨_, e, _⟩ := x
    exact Heap.lt_size e
  · obtain ⟨_, e, _⟩ := x
    exact Heap.lt_size e
end
theorem sep_of {z TI TO i1 i2 a b : Addr} (D : ZipApart z TI TO i1 i2 a b) : ZipSep2 z TI TO i1 i2 [i1, a] [i2, b] where
  TIz := D.TIz
  TOz := D.TOz
  TITO := D.TITO
  TIi1 := D.TIi1
  mem1 := List.mem_cons_self ..
  zf1 := by simp only [List.mem_cons, List.not_mem_nil, or_false, not_or]; exact ⟨D.i1z.symm, D.l1z.symm⟩
  Tf1 := by simp only [List.mem_cons, List.not_mem_nil, or_false, not_or]; exact ⟨D.TOi1, D.l1TO.symm⟩
  TIi2 := D.TIi2
  mem2 := List.mem_cons_self ..
  zf2 := by simp only [List.mem_cons, List.not_mem_nil, or_false, not_or]; exact ⟨D.i2z.symm, D.l2z.symm⟩
  Tf2 := by simp only [List.mem_cons, List.not_mem_nil, or_false, not_or]; exact ⟨D.TOi2, D.l2TO.symm⟩
  sep1_2 := by simp only [List.mem_cons, List.not_mem_nil, or_false, not_or]; exact ⟨D.i12, D.l2i1.symm⟩
  sep2_1 := by simp only [List.mem_cons, List.not_mem_nil, or_false, not_or]; exact ⟨D.i12.symm, D.l1i2.symm⟩
/-- strict or not -/
def IsZipK (st : Bool) (h : Heap) (z TI TO : Addr) (f0 : Value) : Prop := match st with
  | true => IsZipS h z TI TO f0
  | false => IsZip h z TI TO f0
theorem IsZipK.get {st : Bool} {h : Heap} {z TI TO : Addr} {f0 : Value} (x : IsZipK st h z TI TO f0) : ∃ o, h.get? z = some o ∧ ∀ v, o.data ≠ .cell v := by
  cases st
  · exact ⟨_, x, fun v q => nomatch q⟩
  · exact ⟨_, x, fun v q => nomatch q⟩
theorem IsZipK.at {st : Bool} {h h' : Heap} {z TI TO : Addr} {f0 : Value} (x : IsZipK st h z TI TO f0) (e : ∀ o, h.get? z = some o → h'.get? z = some o) : IsZipK st h' z TI TO f0 := by
  cases st
  · exact e _ x
  · exact e _ x
def endK (st : Bool) (i n1 n2 : Nat) : Prop := match st with
  | true => i = n1 ∧ i = n2
  | false => (i = n1 ∧ i ≤ n2) ∨ (i ≤ n1 ∧ i = n2)
section
variable {prog : Program} {w : World} {A : Around} {E : Value → Shared → Prop} {s : Shared} {z TI TO i1 i2 : Addr} {fp1 fp2 : List Addr} {n1 n2 i : Nat} {P1 P2 : Nat → Value → Prop} {St1 St2 : Nat → Heap → Prop} {a1 a2 : Value} {st : Bool}
theorem pyNext_zipK_item {Q : Option Value → Shared → Prop} (S : ZipSep2 z TI TO i1 i2 fp1 fp2) (D1 : Draws prog w A.in1 i1 fp1 n1 P1 St1) (D2 : Draws prog w A.in1 i2 fp2 n2 P2 St2)
    (hz : IsZipK st s.heap z TI TO .none) (hTI : IsTupOf2 s.heap TI (.ref i1) (.ref i2)) (hTO : IsTupOf2 s.heap TO a1 a2) (st1 : St1 i s.heap) (st2 : St2 i s.heap) (hlt1 : i < n1) (hlt2 : i < n2)
    (hQ : ∀ x1 x2 h' tk, P1 i x1 → P2 i x2 → IsZipK st h' z TI TO (rawInt s.heap.objs.size) → IsTupOf2 h' TO x1 x2 → St1 (i + 1) h' → St2 (i + 1) h' → IsTupOf2 h' s.heap.objs.size x1 x2 → h'.objs.size = s.heap.objs.size + 1 →
      (∀ c o, c ≠ z → c ≠ TO → c ≠ i1 → c ≠ i2 → s.heap.get? c = some o → h'.get? c = some o) → Q (some (.ref s.heap.objs.size)) { s with heap := h', toks := tk }) :
    wpAny (model prog w) A (pyNext (.ref z)) Q E s := by
  cases st
  · exact wpAny_pyNext_zipD2_item S D1 D2 hz hTI hTO st1 st2 hlt1 hlt2 hQ
  · exact pyNext_zipS_item S D1 D2 hz hTI hTO st1 st2 hlt1 hlt2 hQ
theorem pyNext_zipK_end {Q : Option Value → Shared → Prop} (hh : A.handled = none) (S : ZipSep2 z TI TO i1 i2 fp1 fp2) (D1 : Draws prog w A.in1 i1 fp1 n1 P1 St1) (D2 : Draws prog w A.in1 i2 fp2 n2 P2 St2)
    (hz : IsZipK st s.heap z TI TO .none) (hTI : IsTupOf2 s.heap TI (.ref i1) (.ref i2)) (hTO : IsTupOf2 s.heap TO a1 a2) (st1 : St1 i s.heap) (st2 : St2 i s.heap) (he : endK st i n1 n2)
    (hQ : ∀ h' tk, (∀ c o, c ≠ z → c ≠ TO → c ≠ i1 → c ≠ i2 → s.heap.get? c = some o → h'.get? c = some o) → Q none { s with heap := h', toks := tk }) : wpAny (model prog w) A (pyNext (.ref z)) Q E s := by
  cases st
  · rcases he with ⟨e1, e2⟩ | ⟨e1, e2⟩
    · exact wpAny_pyNext_zipD2_end S D1 D2 hz hTI hTO st1 st2 (by omega) (by omega) (by omega) hQ
    · exact wpAny_pyNext_zipD2_end S D1 D2 hz hTI hTO st1 st2 (by omega) (by omega) (by omega) hQ
  · exact pyNext_zipS_end hh S D1 D2 hz hTI hTO st1 st2 he.1 he.2 fun h' => hQ h' s.toks
theorem letGo_zipK {elts : List Expr} {x1} {pos : Pos} {T : Addr} {Q : Unit → Shared → Prop} (hz : IsZipK st s.heap z TI TO (rawInt T))
    (hQ : ∀ h', IsZipK st h' z TI TO .none → Heap.SameBut z s.heap h' → Q () { s with heap := h' }) :
    wpAny (model prog w) A (letOwnedTupleGo (.Tuple elts x1 pos) (.ref z) (.ref T)) Q E s := by
  cases st
  · exact wpAny_letOwnedTupleGo_zip hz hQ
  · exact letGo_zipS hz hQ
theorem pyIter_zipK {f0 : Value} {Q : Value → Shared → Prop} (hz : IsZipK st s.heap z TI TO f0) (h : Q (.ref z) s) : wpAny (model prog w) A (pyIter (.ref z)) Q E s := by
  cases st
  · exact wpAny_pyIter_zip hz h
  · exact pyIter_zipS hz h
end
def ItzK (K : PySem.W.Frag) (st k1 k2 : Bool) (a b : Addr) : It :=
  ⟨fun i H => ∃ (xs ys : List V) (x y : V), SqK K H k1 a xs ∧ SqK K H k2 b ys ∧ xs[i]? = some x ∧ ys[i]? = some y,
    fun i H v H' => ∃ T x y, v = .ref T ∧ H T = none ∧ H' = upd H T (.tup [x, y]) ∧ (∀ xs, SqK K H k1 a xs → xs[i]? = some x) ∧ ∀ ys, SqK K H k2 b ys → ys[i]? = some y,
    fun i H => ∃ xs ys : List V, SqK K H k1 a xs ∧ SqK K H k2 b ys ∧ endK st i xs.length ys.length⟩
theorem turn_zipK {P : Program} {w : World} {K : PySem.W.Frag} {elts : List Expr} {kk : Nat} {tpos : Pos} {st k1 k2 : Bool} {a b z TI TO i1 i2 : Addr} (D : ZipApart z TI TO i1 i2 a b) :
    Turn P w K (.Tuple elts kk tpos) (ItzK K st k1 k2 a b) [z, TI, TO, i1, i2] z (fun i h => IsZipK st h z TI TO .none ∧ IsTupOf2 h TI (.ref i1) (.ref i2) ∧ (∃ x y, IsTupOf2 h TO x y) ∧ ItrK k1 h i1 a i ∧ ItrK k2 h i2 b i) where
  mem := by simp
  obj := fun i h st c hc => by
    obtain ⟨hz, hTI, ⟨x, y, hTO⟩, h1, h2⟩ := st
    have e' : c = z ∨ c = TI ∨ c = TO ∨ c = i1 ∨ c = i2 := by simpa using hc
    rcases e' with q | q | q | q | q
    · rw [q]; exact hz.get
    · rw [q]; exact ⟨_, hTI, fun v q => nomatch q⟩
    · rw [q]; exact ⟨_, hTO, fun v q => nomatch q⟩
    · rw [q]; exact h1.get
    · rw [q]; exact h2.get
  keep := fun i h h' st k => by
    obtain ⟨hz, hTI, ⟨x, y, hTO⟩, h1, h2⟩ := st
    exact ⟨hz.at fun o q => k z (by simp) o q, k TI (by simp) _ hTI, ⟨x, y, k TO (by simp) _ hTO⟩, h1.at fun o q => k i1 (by simp) o q, h2.at fun o q => k i2 (by simp) o q⟩
  item := by
    intro X hP hw hK hc i pins s σ H E I hf st' hg
    subst hP hw hK
    obtain ⟨hz, hTI, ⟨x0, y0, hTO⟩, h1, h2⟩ := st'
    obtain ⟨xs, ys, x, y, hqx, hqy, hx, hy⟩ := hg
    obtain ⟨its, rv, p⟩ := inv_sq I hqx
    obtain ⟨its2, rv2, p2⟩ := inv_sq I hqy
    obtain ⟨u, hu, ru⟩ := rv.get hx
    obtain ⟨u2, hu2, ru2⟩ := rv2.get hy
    have hh : X.A.in1.handled = none := I.ok.hd hc
    have D1 := Draws.kind (prog := X.prog) (w := X.w) hh k1 i1 a D.l1i1 its.toArray
    have D2 := Draws.kind (prog := X.prog) (w := X.w) hh k2 i2 b D.l2i2 its2.toArray
    have hil : i < its.length := (List.getElem?_eq_some_iff.mp hu).1
    have hil2 : i < its2.length := (List.getElem?_eq_some_iff.mp hu2).1
    obtain ⟨oz, ez, _⟩ := hz.get
    have hzl : z < s.heap.objs.size := Heap.lt_size ez
    refine pyNext_zipK_item (sep_of D) D1 D2 hz hTI hTO ⟨h1, p⟩ ⟨h2, p2⟩ (by simpa using hil) (by simpa using hil2) fun w1 w2 h' tk e1 e2 z' TO' h1' h2' hT hsz hk => ?_
    have ew1 : w1 = u := by
      have e1' : its.toArray[i]? = some w1 := e1
      rw [List.getElem?_toArray, hu] at e1'
      cases e1'
      rfl
    have ew2 : w2 = u2 := by
      have e2' : its2.toArray[i]? = some w2 := e2
      rw [List.getElem?_toArray, hu2] at e2'
      cases e2'
      rfl
    subst ew1
    subst ew2
    refine ⟨_, rfl, letGo_zipK (s := { s with heap := h', toks := tk }) z' fun h'' z'' sb => ?_⟩
    replace sb : Heap.SameBut z h' h'' := sb
    have hT2 : h''.get? s.heap.objs.size = some { cls := .type "tuple", data := .seq #[w1, w2] } := (sb.2 _ (Nat.ne_of_gt hzl)).trans hT
    have new : ObjOk X.prog X.w (upd H s.heap.objs.size (.tup [x, y])) h'' s.heap.objs.size (.tup [x, y]) :=
      ⟨by show 2 ≤ sizeLine; decide, [w1, w2], .cons ru (.cons ru2 .nil), ⟨_, hT2, rfl, _, rfl⟩⟩
    have I1 : Inv X pins σ (upd H s.heap.objs.size (.tup [x, y])) { s with heap := h'', toks := tk } :=
      I.turnedNew (t' := tk) (ch := [z, TI, TO, i1, i2]) (fun c o hb q => (sb.2 c (fun q' => hb (by simp [q']))).trans (hk c o (fun q' => hb (by simp [q'])) (fun q' => hb (by simp [q'])) (fun q' => hb (by simp [q'])) (fun q' => hb (by simp [q'])) q)) hf (Nat.le_refl _) new
    refine ⟨.ref s.heap.objs.size, _, I1, rfl, ⟨_, x, y, rfl, I.hok.fresh (Nat.le_refl _), rfl, fun l hl => by rw [sq_inj I hl hqx]; exact hx, fun l hl => by rw [sq_inj I hl hqy]; exact hy⟩, ⟨z'', ?_, ⟨w1, w2, ?_⟩, ?_, ?_⟩, fun c hcm => ?_⟩
    · exact (sb.2 _ D.TIz).trans (hk _ _ D.TIz D.TITO D.TIi1 D.TIi2 hTI)
    · exact (sb.2 _ D.TOz).trans TO'
    · exact h1'.1.at fun o q => (sb.2 _ D.i1z).trans q
    · exact h2'.1.at fun o q => (sb.2 _ D.i2z).trans q
    · have hlt : c < s.heap.objs.size := by
        have e' : c = z ∨ c = TI ∨ c = TO ∨ c = i1 ∨ c = i2 := by simpa using hcm
        rcases e' with q | q | q | q | q
        · rw [q]; exact hzl
        · rw [q]; exact Heap.lt_size hTI
        · rw [q]; exact Heap.lt_size hTO
        · rw [q]; obtain ⟨_, e1, _⟩ := h1.get; exact Heap.lt_size e1
        · rw [q]; obtain ⟨_, e2, _⟩ := h2.get; exact Heap.lt_size e2
      rw [upd_ne (Nat.ne_of_lt hlt)]
      exact (hf c hcm).1
  done := by
    intro X hP hw hK hc i pins s σ H E I hf st' hg
    subst hP hw hK
    obtain ⟨hz, hTI, ⟨x0, y0, hTO⟩, h1, h2⟩ := st'
    obtain ⟨xs, ys, hqx, hqy, hend⟩ := hg
    obtain ⟨its, rv, p⟩ := inv_sq I hqx
    obtain ⟨its2, rv2, p2⟩ := inv_sq I hqy
    have hh : X.A.in1.handled = none := I.ok.hd hc
    have D1 := Draws.kind (prog := X.prog) (w := X.w) hh k1 i1 a D.l1i1 its.toArray
    have D2 := Draws.kind (prog := X.prog) (w := X.w) hh k2 i2 b D.l2i2 its2.toArray
    rw [rv.length, rv2.length] at hend
    have he : endK st i its.toArray.size its2.toArray.size := by simpa using hend
    exact pyNext_zipK_end hh (sep_of D) D1 D2 hz hTI hTO ⟨h1, p⟩ ⟨h2, p2⟩ he fun h' tk hk => ⟨rfl, I.turnedL (t' := tk) (ch := [z, TI, TO, i1, i2]) (fun c o hb q =>
      hk c o (fun q' => hb (by simp [q'])) (fun q' => hb (by simp [q'])) (fun q' => hb (by simp [q'])) (fun q' => hb (by simp [q'])) q) hf⟩
  self := fun A i s Q E st h => pyIter_zipK st.1 h
/-! ### called -/
theorem callWith_type_kw {M : Model} {A : Around} {E : Value → Shared → Prop} {s : Shared} {env : Env} {pos : Pos} {T : String} {e : Expr} {rest : List Expr} {kws : List Keyword} {Q : Value → Shared → Prop}
    (h : wpAny M A (spliced (backTo pos (starEach (e :: rest) env))) (fun vs s₁ => wpAny M A (evalAll ((backToKw pos (keywordEach kws env)).map (·.2)))
      (fun kvs s₂ => wpAny M A (call (.type T) vs (((backToKw pos (keywordEach kws env)).filterMap (·.1)).zip kvs)) Q E s₂) E s₁) E s)
    (he : backTo pos (starEach (e :: rest) env) = (false, eval e env) :: backTo pos (starEach rest env))
    (hplain : (backTo pos (starEach (e :: rest) env)).any (·.1) = false)
    (hall : (backToKw pos (keywordEach kws env)).all (·.1.isSome) = true)
    (hkw : (backToKw pos (keywordEach kws env)).any (·.1.isNone) = false) :
    wpAny M A (callWith pos (.type T) [] (backTo pos (starEach (e :: rest) env)) (backToKw pos (keywordEach kws env))) Q E s := by
  unfold callWith
  rw [he] at h hplain ⊢
  have h' := evalArgs_kwB (f := .type T) (Q := fun a s₁ => wpAny M A (call (.type T) ([] ++ a.pos) a.kw) Q E s₁) hall h
  refine wpAny_bind (wpAny_holding (wpAny_mono h' (fun a s₁ h₁ => wpAny_bind (wpAny_standAt ?_)) fun _ _ x => x))
  simp only [hplain, hkw, Bool.or_false]
  refine wpAny_bind (wpAny_pure ?_)
  exact wpAny_bind (wpAny_mono h₁ (fun r s₂ hr => wpAny_bind (wpAny_holding (wpAny_point (wpAny_pure hr)))) fun _ _ x => x)
section
variable {M : Model} {A : Around} {E : Value → Shared → Prop} {s : Shared} {env : Env}
theorem CallK_ {func : Expr} {args : List Expr} {kws : List Keyword} {pos : Pos} {Q : Value → Shared → Prop}
    (h : wpAny M A (eval func env) (fun f s₁ => wpAny M A (callWith pos f [] (backTo pos (starEach args env)) (backToKw pos (keywordEach kws env))) Q E s₁) E s)
    (he : eval (.Call func args kws pos) env = (do callWith pos (← eval func env) [] (backTo pos (starEach args env)) (backToKw pos (keywordEach kws env)))) :
    wpAny M A (eval (.Call func args kws pos) env) Q E s := by
  rw [he]; exact wpAny_bind h
end
abbrev kwStrict (kp p : Pos) (j : Nat) : List Keyword := [⟨some (Str.ofString "strict"), .Constant (.bool true) j p, kp⟩]
def iZipK (K : PySem.W.Frag) (st : Bool) (ta : TA) : TI := fun σ H R => ta σ H fun vs H1 => ∃ a b xs ys k1 k2, vs = [.ref a, .ref b] ∧ SqK K H1 k1 a xs ∧ SqK K H1 k2 b ys ∧ R (ItzK K st k1 k2 a b) H1
section
variable {X : Cx} {e e2 : Expr} {ta : TA} {p pos tpos kp cp : Pos} {j : Nat} {elts : List Expr} {kk : Nat}
theorem zip_come {st : Bool} {pins : List (Addr × Obj)} {s1 : Shared} {σ : L2.St} {H1 : Hp} {a b : Addr} {k1 k2 : Bool} {R : It → Hp → Prop} {its its2 : Array Value} (I1 : Inv X pins σ H1 s1) (p1 : ItsK k1 s1.heap a its) (p2 : ItsK k2 s1.heap b its2) (q : R (ItzK X.K st k1 k2 a b) H1)
    {h' : Heap} (hz : IsZipK st h' (s1.heap.objs.size + 4) (s1.heap.objs.size + 2) (s1.heap.objs.size + 3) .none) (hTI : IsTupOf2 h' (s1.heap.objs.size + 2) (.ref s1.heap.objs.size) (.ref (s1.heap.objs.size + 1)))
    (hTO : IsTupOf2 h' (s1.heap.objs.size + 3) .none .none) (h1 : ItrK k1 h' s1.heap.objs.size a 0) (h2 : ItrK k2 h' (s1.heap.objs.size + 1) b 0) (hk : ∀ c o, s1.heap.get? c = some o → h'.get? c = some o) :
    wpAny (model X.prog X.w) X.A (pyIter (.ref (s1.heap.objs.size + 4))) (PIE X pins σ (.Tuple elts kk tpos) R) X.xe { s1 with heap := h' } := by
  refine pyIter_zipK (s := { s1 with heap := h' }) hz ?_
  have fresh5 : ∀ c, c ∈ [s1.heap.objs.size + 4, s1.heap.objs.size + 2, s1.heap.objs.size + 3, s1.heap.objs.size, s1.heap.objs.size + 1] → FpOk X pins H1 c := fun c hcm => by
    have e' : c = s1.heap.objs.size + 4 ∨ c = s1.heap.objs.size + 2 ∨ c = s1.heap.objs.size + 3 ∨ c = s1.heap.objs.size ∨ c = s1.heap.objs.size + 1 := by simpa using hcm
    have hle : s1.heap.objs.size ≤ c := by
      rcases e' with z | z | z | z | z
      · rw [z]; exact Nat.le_add_right _ _
      · rw [z]; exact Nat.le_add_right _ _
      · rw [z]; exact Nat.le_add_right _ _
      · rw [z]; exact Nat.le_refl _
      · rw [z]; exact Nat.le_add_right _ _
    exact I1.fpOk hle (I1.hok.fresh hle)
  have I2 : Inv X pins σ H1 { s1 with heap := h' } := I1.kept (t' := s1.toks) hk
  exact ⟨s1.heap.objs.size + 4, [s1.heap.objs.size + 4, s1.heap.objs.size + 2, s1.heap.objs.size + 3, s1.heap.objs.size, s1.heap.objs.size + 1], _, _, H1, rfl, I2, turn_zipK (PySem.W.ktu_apart s1.heap.objs.size a b p1.lt p2.lt), ⟨hz, hTI, ⟨_, _, hTO⟩, h1, h2⟩, fresh5, q⟩
theorem pi_zipS (hg : Gl X "zip") (hm : X.mg "zip" = none) (ha : PA X [e, e2] ta)
    (he : eval (.Call (.Name "zip" p) [e, e2] (kwStrict kp cp j) pos) X.env = (do callWith pos (← eval (.Name "zip" p) X.env) [] (backTo pos (starEach [e, e2] X.env)) (backToKw pos (keywordEach (kwStrict kp cp j) X.env))))
    (hs : backTo pos (starEach [e, e2] X.env) = (false, eval e X.env) :: backTo pos (starEach [e2] X.env))
    (hpl : (backTo pos (starEach [e, e2] X.env)).any (·.1) = false) :
    PI X (.Tuple elts kk tpos) (.Call (.Name "zip" p) [e, e2] (kwStrict kp cp j) pos) (iZipK X.K true ta) := by
  refine ⟨fun pins s σ H R I h => ?_⟩
  refine CallK_ (ld_blt I hg hm PyProof.Rows.boot_zip (callWith_type_kw (thn (ha.run pos pins s σ H _ I h) fun us s1 ⟨vs, H1, I1, r1, q1⟩ => kws_cons (thn (pe_bl.run pins s1 σ H1 _ I1 (show tC (.bl true) σ H1 (fun v H' => v = .bl true ∧ H' = H1) from ⟨rfl, rfl⟩)) fun u s2 ⟨v, H2, I2, ru, ev, eh⟩ => kws_nil ?_)) hs hpl rfl rfl)) he
  subst ev
  subst eh
  cases ru
  obtain ⟨a, b, xs, ys, k1, k2, ex, hqx, hqy, q⟩ := q1
  subst ex
  cases r1 with
  | cons r rr =>
    cases rr with
    | cons r' rr =>
      cases rr
      cases r
      cases r'
      obtain ⟨its, rv, p1⟩ := inv_sq I2 hqx
      obtain ⟨its2, rv2, p2⟩ := inv_sq I2 hqy
      refine zipS_begins (begins_k k1 a its.toArray) (begins_k k2 b its2.toArray) p1 p2 fun h' hz hTI hTO h1 h2 hsz hk => ?_
      exact zip_come (st := true) I2 p1 p2 q hz hTI hTO (itr_of h1) (itr_of h2) hk
theorem pi_zipN (hg : Gl X "zip") (hm : X.mg "zip" = none) (ha : PA X [e, e2] ta)
    (hs : starEach [e, e2] X.env = (false, eval e X.env) :: starEach [e2] X.env := by rfl) (hpl : (backTo pos (starEach [e2] X.env)).any (·.1) = false := by rfl) :
    PI X (.Tuple elts kk tpos) (.Call (.Name "zip" p) [e, e2] [] pos) (iZipK X.K false ta) := by
  refine ⟨fun pins s σ H R I h => ?_⟩
  refine Call_ (ld_blt I hg hm PyProof.Rows.boot_zip (PyProof.Rows.callWith_type1 (thn (ha.run pos pins s σ H _ I h) fun us s1 ⟨vs, H1, I1, r1, q1⟩ => ?_) hs hpl))
  obtain ⟨a, b, xs, ys, k1, k2, ex, hqx, hqy, q⟩ := q1
  subst ex
  cases r1 with
  | cons r rr =>
    cases rr with
    | cons r' rr =>
      cases rr
      cases r
      cases r'
      obtain ⟨its, rv, p1⟩ := inv_sq I1 hqx
      obtain ⟨its2, rv2, p2⟩ := inv_sq I1 hqy
      refine zip_begins2 (begins_k k1 a its.toArray) (begins_k k2 b its2.toArray) p1 p2 fun h' hz hTI hTO h1 h2 hsz hk => ?_
      exact zip_come (st := false) I1 p1 p2 q hz hTI hTO (itr_of h1) (itr_of h2) hk
end
/-! ### over data -/
theorem seqK {K : Fg} {I I2 : List Addr} {H H2 : Hp} {h2 : OS} {x : D} {p : Addr} {k : Bool} {es : List D} (rd : RD K H I x (.ref p)) (s : Stp I H I2 H2) (r : HR K I2 h2 H2) (e : sqv h2 x = some (k, es)) : ∃ xs, SqK K H2 k p xs ∧ RDs K H2 I2 es xs := by
  obtain ⟨p', xs, e1, hs, rs⟩ := sqv_ok r (rd.step s) e
  cases e1
  rcases hs with ⟨hk, hs⟩ | ⟨hk, hs⟩
  · subst hk
    exact ⟨xs, hs, rs⟩
  · subst hk
    exact ⟨xs, hs, rs⟩
abbrev zipD (es fs : List D) : List D := List.zipWith (fun a b => D.tup [a, b]) es fs
def iZipKD (st : Bool) (ta tb : TDE) : TDI := fun δ h RS => ta δ h fun x h1 => tb δ h1 fun y h2 => ∃ k es k' fs, sqv h2 x = some (k, es) ∧ sqv h2 y = some (k', fs) ∧ (st = true → es.length = fs.length) ∧ RS ⟨zipD es fs, fun h3 => sqv h3 x = some (k, es) ∧ sqv h3 y = some (k', fs)⟩ h2
section
variable {X : Cx} {e e2 : Expr} {ta tb : TDE} {p pos tpos kp cp : Pos} {j : Nat} {elts : List Expr} {kk : Nat}
theorem zip_up {st : Bool} {σ : L2.St} {H : Hp} {R : It → Hp → Prop} (q : upI X.K (iZipKD st ta tb) σ H R) : iZipK X.K st (upA X.K (dCons ta (dCons tb dNil))) σ H R := by
  obtain ⟨I, δ, h, RS, sr, hr, q, g⟩ := q
  refine ⟨I, δ, h, fun ds h1 => ∃ x y k es k' fs, ds = [x, y] ∧ sqv h1 x = some (k, es) ∧ sqv h1 y = some (k', fs) ∧ (st = true → es.length = fs.length) ∧ RS ⟨zipD es fs, fun h3 => sqv h3 x = some (k, es) ∧ sqv h3 y = some (k', fs)⟩ h1, sr, hr, ?_, ?_⟩
  · show ta δ h fun x h1 => tb δ h1 fun y h2 => ∃ x' y' k es k' fs, [x, y] = [x', y'] ∧ sqv h2 x' = some (k, es) ∧ sqv h2 y' = some (k', fs) ∧ (st = true → es.length = fs.length) ∧ RS ⟨zipD es fs, fun h3 => sqv h3 x' = some (k, es) ∧ sqv h3 y' = some (k', fs)⟩ h2
    have e0 : ∀ x : D, (fun (y : D) (h2 : OS) => ∃ x' y' k es k' fs, [x, y] = [x', y'] ∧ sqv h2 x' = some (k, es) ∧ sqv h2 y' = some (k', fs) ∧ (st = true → es.length = fs.length) ∧ RS ⟨zipD es fs, fun h3 => sqv h3 x' = some (k, es) ∧ sqv h3 y' = some (k', fs)⟩ h2) = fun y h2 => ∃ k es k' fs, sqv h2 x = some (k, es) ∧ sqv h2 y = some (k', fs) ∧ (st = true → es.length = fs.length) ∧ RS ⟨zipD es fs, fun h3 => sqv h3 x = some (k, es) ∧ sqv h3 y = some (k', fs)⟩ h2 := by
      intro x
      funext y h2
      apply propext
      constructor
      · rintro ⟨x', y', k, es, k', fs, e, a, b, c⟩
        cases e
        exact ⟨k, es, k', fs, a, b, c⟩
      · rintro ⟨k, es, k', fs, a, b, c⟩
        exact ⟨x, y, k, es, k', fs, rfl, a, b, c⟩
    have e1 : (fun x h1 => tb δ h1 fun y h2 => ∃ x' y' k es k' fs, [x, y] = [x', y'] ∧ sqv h2 x' = some (k, es) ∧ sqv h2 y' = some (k', fs) ∧ (st = true → es.length = fs.length) ∧ RS ⟨zipD es fs, fun h3 => sqv h3 x' = some (k, es) ∧ sqv h3 y' = some (k', fs)⟩ h2) = fun x h1 => tb δ h1 fun y h2 => ∃ k es k' fs, sqv h2 x = some (k, es) ∧ sqv h2 y = some (k', fs) ∧ (st = true → es.length = fs.length) ∧ RS ⟨zipD es fs, fun h3 => sqv h3 x = some (k, es) ∧ sqv h3 y = some (k', fs)⟩ h2 := by
      funext x h1
      rw [e0 x]
    rw [e1]
    exact q
  · rintro ds h1 I1 H1 vs ⟨x, y, k, es, k', fs, rfl, e1, e2', hl, q1⟩ s1 hr1 rd
    cases rd with
    | cons rx rd =>
      cases rd with
      | cons ry rd =>
        cases rd
        obtain ⟨a, _, rfl, _, _⟩ := sqv_ok hr1 rx e1
        obtain ⟨b, _, rfl, _, _⟩ := sqv_ok hr1 ry e2'
        obtain ⟨xs, sq, rs⟩ := seqK rx Stp.refl hr1 e1
        obtain ⟨ys, sq2, rs2⟩ := seqK ry Stp.refl hr1 e2'
        refine ⟨a, b, xs, ys, k, k', rfl, sq, sq2, g _ h1 I1 H1 _ q1 s1 hr1 ?_⟩
        have zl : (zipD es fs).length = min es.length fs.length := List.length_zipWith
        refine ⟨fun i I2 H2 h2 s r z l => ?_, fun I2 H2 h2 s r z => ?_, fun i I2 H2 h2 d w H3 s r z e3 yl => ?_⟩
        · obtain ⟨u1, q4, r4⟩ := seqK rx s r z.1
          obtain ⟨u2, q5, r5⟩ := seqK ry s r z.2
          have l' : i < min es.length fs.length := by
            rw [← zl]
            exact l
          obtain ⟨w1, e5, _⟩ := r4.get (List.getElem?_eq_getElem (show i < es.length by omega))
          obtain ⟨w2, e6, _⟩ := r5.get (List.getElem?_eq_getElem (show i < fs.length by omega))
          exact ⟨u1, u2, w1, w2, q4, q5, e5, e6⟩
        · obtain ⟨u1, q4, r4⟩ := seqK rx s r z.1
          obtain ⟨u2, q5, r5⟩ := seqK ry s r z.2
          refine ⟨u1, u2, q4, q5, ?_⟩
          rw [← r4.length, ← r5.length]
          show endK st (zipD es fs).length es.length fs.length
          rw [zl]
          cases st with
          | true =>
            have := hl rfl
            exact ⟨by omega, by omega⟩
          | false =>
            by_cases c : es.length ≤ fs.length
            · exact Or.inl ⟨by omega, by omega⟩
            · exact Or.inr ⟨by omega, by omega⟩
        · obtain ⟨T, w1, w2, rfl, e6, rfl, e7, e8⟩ := yl
          obtain ⟨u1, q4, r4⟩ := seqK rx s r z.1
          obtain ⟨u2, q5, r5⟩ := seqK ry s r z.2
          obtain ⟨d1, f1, g1⟩ := r4.getV (e7 u1 q4)
          obtain ⟨d2, f2, g2⟩ := r5.getV (e8 u2 q5)
          have e3' : (zipD es fs)[i]? = some d := e3
          rw [List.getElem?_zipWith, f1, f2] at e3'
          cases e3'
          exact new_pair r e6 g1 g2
theorem i_zipS (hg : Gl X "zip") (hm : X.mg "zip" = none) (he : DE X e ta) (he2 : DE X e2 tb) (hs2 : starEach [e2] X.env = (false, eval e2 X.env) :: starEach [] X.env := by rfl) (hs1 : starEach [e, e2] X.env = (false, eval e X.env) :: starEach [e2] X.env := by rfl)
    (hc : eval (.Call (.Name "zip" p) [e, e2] (kwStrict kp cp j) pos) X.env = (do callWith pos (← eval (.Name "zip" p) X.env) [] (backTo pos (starEach [e, e2] X.env)) (backToKw pos (keywordEach (kwStrict kp cp j) X.env))) := by rfl)
    (hs : backTo pos (starEach [e, e2] X.env) = (false, eval e X.env) :: backTo pos (starEach [e2] X.env) := by rfl)
    (hpl : (backTo pos (starEach [e, e2] X.env)).any (·.1) = false := by rfl) :
    DI X (.Tuple elts kk tpos) (.Call (.Name "zip" p) [e, e2] (kwStrict kp cp j) pos) (iZipKD true ta tb) :=
  PI.imp (pi_zipS hg hm (da_cons he (da_cons he2 da_nil hs2) hs1) hc hs hpl) fun σ H R q => zip_up q
theorem i_zipN (hg : Gl X "zip") (hm : X.mg "zip" = none) (he : DE X e ta) (he2 : DE X e2 tb) (hs2 : starEach [e2] X.env = (false, eval e2 X.env) :: starEach [] X.env := by rfl) (hs : starEach [e, e2] X.env = (false, eval e X.env) :: starEach [e2] X.env := by rfl)
    (hpl : (backTo pos (starEach [e2] X.env)).any (·.1) = false := by rfl) :
    DI X (.Tuple elts kk tpos) (.Call (.Name "zip" p) [e, e2] [] pos) (iZipKD false ta tb) :=
  PI.imp (pi_zipN hg hm (da_cons he (da_cons he2 da_nil hs2) hs) hs hpl) fun σ H R q => zip_up q
end
/-! ### as functions -/
/-- a sequence: its kind, its things, and while it stands -/
def SZ' (P : List Nat) (t : TDE) (y : XI) : Prop := ∀ σ its gd σ', y σ = some ((its, gd), σ') → ∀ δ h c (R : DK), RpS h σ δ c → (∀ d k h' c', RpS h' σ' δ c' → Ch h c h' c' → (∀ σ2 δ2 h2 c2, RpS h2 σ2 δ2 c2 → Ch h' c' h2 c2 → Fix P δ δ2 → gd σ2 → sqv h2 d = some (k, its)) → R d h') → t δ h R
open Classical in
noncomputable def iZp (st : Bool) (y1 y2 : XI) : XI := fun σ => (y1 σ).bind fun p => (y2 p.2).bind fun q => if (st = true → p.1.1.length = q.1.1.length) ∧ p.1.2 q.2 ∧ q.1.2 q.2 then some ((zipD p.1.1 q.1.1, fun σ2 => p.1.2 σ2 ∧ q.1.2 σ2), q.2) else none
section
variable {P : List Nat} {te ta tb : TDE} {xe : XE} {xf : XF} {y1 y2 : XI}
theorem z_iL (a : SE te xe) : SZ' P te (iL xe) := fun σ its gd σ' e δ h c R r q => by
  obtain ⟨⟨d, σ1⟩, e1, e⟩ := bind_some e
  refine a σ d σ1 e1 δ h c _ r fun h1 c1 r1 ch1 => ?_
  dsimp only at e
  split at e
  · cases e
    exact q _ true h1 c1 r1 ch1 fun _ _ _ _ _ _ _ _ => rfl
  · cases e
    exact q _ true h1 c1 r1 ch1 fun _ _ _ _ _ _ _ _ => rfl
  · cases e
theorem z_iT (a : SE te xe) : SZ' P te (iT xe) := fun σ its gd σ' e δ h c R r q => by
  obtain ⟨⟨d, σ1⟩, e1, e⟩ := bind_some e
  refine a σ d σ1 e1 δ h c _ r fun h1 c1 r1 ch1 => ?_
  dsimp only at e
  split at e
  · cases e
    exact q _ false h1 c1 r1 ch1 fun _ _ _ _ _ _ _ _ => rfl
  · cases e
theorem z_iF (a : SF te xf) : SZ' P te (iF xf) := fun σ its gd σ' e δ h c R r q => by
  obtain ⟨⟨w, σ1⟩, e1, e⟩ := bind_some e
  refine a σ w σ1 e1 δ h c _ r fun d h1 c1 S r1 ch1 rp fr => ?_
  dsimp only at e
  split at e
  · cases e
    obtain ⟨n, rfl, sn, hn⟩ := rp
    refine q _ true h1 c1 r1 ch1 fun σ2 δ2 h2 c2 r2 ch2 fx g => ?_
    have := (ch2.kp n _ hn (fr n sn).2.1).1
    show (match h2[n]? with
      | some (O.lst ds) => some (true, ds)
      | _ => none) = _
    rw [this]
  · cases e
    have : d = .lst its := rp
    subst this
    exact q _ true h1 c1 r1 ch1 fun _ _ _ _ _ _ _ _ => rfl
  · cases e
theorem z_iP {i : Nat} (hi : i ∈ P) : SZ' P (dVar i) (iP i) := fun σ its gd σ' e δ h c R r q => by
  unfold iP at e
  split at e
  · rename_i ds z
    cases e
    obtain ⟨d, e1, n, rfl, cn, hn⟩ := r.look i _ z
    refine ⟨_, e1, q _ true h c r Ch.refl fun σ2 δ2 h2 c2 r2 ch2 fx g => ?_⟩
    obtain ⟨d2, e2, n2, rfl, cn2, hn2⟩ := r2.look i _ g
    rw [fx i hi, e1] at e2
    cases e2
    show (match h2[n]? with
      | some (O.lst ds) => some (true, ds)
      | _ => none) = _
    rw [hn2]
    rfl
  · cases e
theorem v_iZp {st : Bool} (a : SZ' P ta y1) (b : SZ' P tb y2) : SI P (iZipKD st ta tb) (iZp st y1 y2) := fun σ its gd σ' e δ h c RS r q => by
  unfold iZp at e
  obtain ⟨⟨⟨its1, gd1⟩, σ1⟩, e1, e⟩ := bind_some e
  obtain ⟨⟨⟨its2, gd2⟩, σ2⟩, e2, e⟩ := bind_some e
  dsimp only at e
  split at e
  · rename_i z
    cases e
    refine a σ its1 gd1 σ1 e1 δ h c _ r fun d1 k1 h1 c1 r1 ch1 G1 => b σ1 its2 gd2 _ e2 δ h1 c1 _ r1 fun d2 k2 h2 c2 r2 ch2 G2 => ?_
    refine ⟨k1, its1, k2, its2, G1 _ δ h2 c2 r2 ch2 Fix.refl z.2.1, G2 _ δ h2 c2 r2 Ch.refl Fix.refl z.2.2, z.1, q h2 c2 _ r2 (ch1.trans ch2) fun σ3 δ3 h3 c3 r3 ch3 fx g => ?_⟩
    exact ⟨G1 σ3 δ3 h3 c3 r3 (ch2.trans ch3) fx g.1, G2 σ3 δ3 h3 c3 r3 ch3 fx g.2⟩
  · cases e
end
section
variable {σ : VS} {y1 y2 : XI}
open Classical in
theorem e_iZp {K : QI} {st : Bool} : WE (iZp st y1 y2 σ) (q := ⟨K⟩) = WE (y1 σ) (q := ⟨fun p σ1 => WE (y2 σ1) (q := ⟨fun q σ2 => WC ((st = true → p.1.length = q.1.length) ∧ p.2 σ2 ∧ q.2 σ2) (K (zipD p.1 q.1, fun σ3 => p.2 σ3 ∧ q.2 σ3) σ2)⟩)⟩) := by
  unfold iZp
  cases y1 σ with
  | none => rfl
  | some p =>
    obtain ⟨⟨its1, gd1⟩, σ1⟩ := p
    show WE ((y2 σ1).bind _) (q := ⟨K⟩) = WE (y2 σ1) (q := _)
    cases y2 σ1 with
    | none => rfl
    | some q =>
      obtain ⟨⟨its2, gd2⟩, σ2⟩ := q
      show WE (if (st = true → its1.length = its2.length) ∧ gd1 σ2 ∧ gd2 σ2 then some ((zipD its1 its2, fun σ2 => gd1 σ2 ∧ gd2 σ2), σ2) else none) (q := ⟨K⟩) = WC ((st = true → its1.length = its2.length) ∧ gd1 σ2 ∧ gd2 σ2) (K (zipD its1 its2, fun σ3 => gd1 σ3 ∧ gd2 σ3) σ2)
      by_cases z : (st = true → its1.length = its2.length) ∧ gd1 σ2 ∧ gd2 σ2
      · rw [if_pos z]
        exact propext ⟨fun h => ⟨z, h⟩, fun h => h.2⟩
      · rw [if_neg z]
        exact propext ⟨fun h => h.elim, fun h => z h.1⟩
end
end FL
end
section
/-! The value layer: lists of texts compared. -/
namespace FL
open PySem PySem.Spec PyProof.Rows L2
/-- its signs are such -/
def TxOk (s : Str) : Prop := ∀ c ∈ s.cps.toList, c < 1114112
theorem TxOk.lay {s : Str} (h : TxOk s) : PyData.canLay0 (.str s) = true := by
  unfold PyData.canLay0 PyData.strOk
  rw [Array.all_eq_true]
  intro i hi
  have := h _ (Array.getElem_mem_toList hi)
  simp
  omega
theorem NameS.tx {s : Str} (h : NameS s) : TxOk s := fun c hc => by
  have := (h.ab c hc).2
  omega
theorem lay_txs : ∀ ss : List Str, (∀ s ∈ ss, TxOk s) → PyData.canLayAll0 (ss.map PyData.str) = true
  | [], _ => rfl
  | s :: ss, h => by
    show (PyData.canLay0 (.str s) && PyData.canLayAll0 (ss.map PyData.str)) = true
    rw [(h s (List.mem_cons_self ..)).lay, lay_txs ss fun x hx => h x (List.mem_cons_of_mem _ hx)]
    rfl
theorem toPs_txs : ∀ ss : List Str, toPs (ss.map D.str) = some (ss.map PyData.str)
  | [] => rfl
  | s :: ss => by
    show (match toP (D.str s), toPs (ss.map D.str) with
      | some p, some ps => some (p :: ps)
      | _, _ => none) = _
    rw [toPs_txs ss]
    rfl
theorem depth_txs : ∀ ss : List Str, PyData.depthAll (ss.map PyData.str) = 0
  | [] => rfl
  | s :: ss => by
    show max 0 (PyData.depthAll (ss.map PyData.str)) = 0
    rw [depth_txs ss]
    rfl
theorem shaped_txs {ss : List Str} (h : ∀ s ∈ ss, TxOk s) : SeqAt.shaped (.list (ss.map PyData.str)) = true := by
  unfold SeqAt.shaped
  have e1 : PyData.canLay0 (.list (ss.map PyData.str)) = true := lay_txs ss h
  have e2 : PyData.depth (.list (ss.map PyData.str)) = 0 + 1 := by
    show PyData.depthAll (ss.map PyData.str) + 1 = 0 + 1
    rw [depth_txs]
  rw [e1, e2]
  rfl
theorem g_neTxs {ss : List Str} (h : ∀ s ∈ ss, TxOk s) : gNe (.lst (ss.map D.str)) (.lst (ss.map D.str)) = some (.bl false) := by
  show (match toP (.lst (ss.map D.str)), toP (.lst (ss.map D.str)) with
    | some a, some b => if SeqAt.shaped a = true ∧ SeqAt.shaped b = true then some (D.bl (!PyData.eqv a b)) else none
    | _, _ => none) = _
  have e : toP (.lst (ss.map D.str)) = some (.list (ss.map PyData.str)) := by
    show (toPs (ss.map D.str)).map PyData.list = _
    rw [toPs_txs]
    rfl
  rw [e]
  dsimp only
  have sh := shaped_txs h
  rw [if_pos ⟨sh, sh⟩, SeqAt.eqv_refl (.list (ss.map PyData.str)) (lay_txs ss h)]
  rfl
theorem tx_int (i : Int) : TxOk (shw (.int i)) := fun c hc => by
  have hc' : c ∈ ((toString i : String) : Str).cps.toList := hc
  by_cases z : c < 1114112
  · exact z
  · exact (PyProof.Rows.int_text_free' c ⟨by omega, Or.inr (by omega)⟩ i hc').elim
/-- omega's own proof of this is too deep for the kernel -/
theorem rng62 {n : Nat} (h : n ≤ 100000) : -(2 ^ 62) ≤ ((n : Nat) : Int) ∧ ((n : Nat) : Int) < 2 ^ 62 :=
  ⟨Int.le_trans (show -(2 ^ 62) ≤ (0 : Int) by decide) (Int.natCast_nonneg n), Int.lt_of_le_of_lt (Int.ofNat_le.mpr h) (show ((100000 : Nat) : Int) < 2 ^ 62 by decide)⟩
end FL
end
section
/-! The value layer: a dict display of one entry. -/
namespace FL
open PySem PySem.Spec PyProof.Rows L2
def dDisp1 (tk tv : TDE) : TDE := fun δ h R => tk δ (h ++ [.dct []]) fun a h1 => tv δ h1 fun b h2 => ∃ k, keyD a = some k ∧ h2[h.length]? = some (.dct []) ∧ R (.ref h.length) (h2.set h.length (.dct [(k, b)]))
section
variable {X : Cx} {pos : Pos} {ek ev : Expr} {tk tv : TDE}
theorem d_disp1 (hk : DE X ek tk) (hv : DE X ev tv) : DE X (.Dict [some ek] [ev] pos) (dDisp1 tk tv) := by
  refine PE.imp (pe_disp (pps_cons hk hv pps_nil) rfl rfl (by simp) (by rw [List.length_singleton]; decide)) fun σ H Q ⟨I, δ, h, R, sr, hr, q, g⟩ p hp => ?_
  have st : Stp I H (I ++ [p]) (upd H p (.dK [])) := Stp.push hp
  have hr0 : HR X.K (I ++ [p]) (h ++ [.dct []]) (upd H p (.dK [])) := hr.push hp ⟨_, upd_same, rfl, .nil⟩
  refine ⟨I ++ [p], δ, _, _, sr.step st, hr0, q, fun a h1 I1 H1 x q1 s1 hr1 ra => ?_⟩
  refine ⟨I1, δ, h1, _, (sr.step st).step s1, hr1, q1, fun b h2 I2 H2 y ⟨k, e1, e2, hR⟩ s2 hr2 rb => ?_⟩
  have p0 : (I ++ [p])[h.length]? = some p := by
    rw [← hr.len, List.getElem?_append_right (Nat.le_refl _), Nat.sub_self]
    rfl
  have pi : I2[h.length]? = some p := s2.at (s1.at p0)
  obtain ⟨kvs, e5, e6, e7⟩ := hr2.ob _ _ _ pi e2
  have e0 : kvs = [] := List.map_eq_nil_iff.mp e6
  subst e0
  obtain rfl := keyD_ok (ra.step s2) e1
  have m : p ∈ I2 := List.mem_of_getElem? pi
  have st3 : Stp I2 H2 I2 (upd H2 p (.dK (mergeK [] [(k, y)]))) := Stp.put m ⟨_, e5, trivial⟩
  refine ⟨e5, [(k, y)], rfl, by rw [List.length_singleton]; decide, ?_⟩
  exact g _ _ _ _ _ hR (st.trans (s1.trans (s2.trans st3))) (hr2.put pi ⟨_, upd_same, rfl, .cons (rb.step st3) .nil⟩) (.ref pi)
end
theorem RpS.setFree {h : OS} {σ : VS} {δ : DS} {c : Co} {n : Nat} {o : O} (r : RpS h σ δ c) (hc : c n = none) : RpS (h.set n o) σ δ c := ⟨r.len, fun i w e => by
  obtain ⟨d, e1, rp⟩ := r.look i w e
  refine ⟨d, e1, rp.move fun m o' s e2 => ⟨?_, s⟩⟩
  rw [List.getElem?_set_ne]
  · exact e2
  · rintro rfl
    have s' : c n = some i := s
    rw [hc] at s'
    cases s'⟩
def xDisp1 (xk xv : XE) : XF := fun σ => (xk σ).bind fun p => (xv p.2).bind fun q => (keyD p.1).map fun k => (.q [(k, q.1)], q.2)
theorem v_disp1 {tk tv : TDE} {xk xv : XE} (a : SE tk xk) (b : SE tv xv) : SF (dDisp1 tk tv) (xDisp1 xk xv) := fun σ w σ' e δ h c R r q => by
  obtain ⟨⟨dk, σ1⟩, e1, e⟩ := bind_some e
  obtain ⟨⟨dv, σ2⟩, e2, e⟩ := bind_some e
  obtain ⟨k, e3, e4⟩ := map_some e
  cases e4
  obtain ⟨r0, ch0⟩ := r.push (.dct [])
  refine a σ dk σ1 e1 δ _ _ _ r0 fun h1 c1 r1 ch1 => b σ1 dv _ e2 δ h1 c1 _ r1 fun h2 c2 r2 ch2 => ?_
  have g0 : (h ++ [O.dct []])[h.length]? = some (.dct []) := by
    rw [List.getElem?_append_right (Nat.le_refl _), Nat.sub_self]
    rfl
  obtain ⟨g1, z1⟩ := (ch1.trans ch2).kp h.length _ g0 (by simp)
  refine ⟨k, e3, g1, ?_⟩
  have hl : h.length < h2.length := (List.getElem?_eq_some_iff.mp g1).1
  have ch : Ch h c h2 c2 := ch0.trans (ch1.trans ch2)
  refine q (.ref h.length) _ c2 (fun n => n = h.length) (r2.setFree z1) ⟨by rw [List.length_set]; exact ch.ln, fun n o en z => ?_⟩ ⟨h.length, rfl, rfl, ?_⟩ fun n s => ?_
  · obtain ⟨x1, x2⟩ := ch.kp n o en z
    refine ⟨?_, x2⟩
    rw [List.getElem?_set_ne (Nat.ne_of_gt (List.getElem?_eq_some_iff.mp en).1)]
    exact x1
  · rw [List.getElem?_set_self hl]
    rfl
  · subst s
    exact ⟨by rw [List.length_set]; exact hl, z1, fun l => absurd l (Nat.lt_irrefl _)⟩
section
variable {σ : VS} {xk xv : XE} {K : W → VS → Prop}
theorem e_disp1 : WE (xDisp1 xk xv σ) (q := ⟨K⟩) = WE (xk σ) (q := ⟨fun a σ1 => WE (xv σ1) (q := ⟨fun b σ2 => W1 (keyD a) (q := ⟨fun k => K (.q [(k, b)]) σ2⟩)⟩)⟩) := by
  unfold xDisp1
  cases xk σ with
  | none => rfl
  | some p =>
    obtain ⟨a, σ1⟩ := p
    show WE ((xv σ1).bind _) (q := ⟨K⟩) = WE (xv σ1) (q := _)
    cases xv σ1 with
    | none => rfl
    | some q =>
      obtain ⟨b, σ2⟩ := q
      show WE ((keyD a).map fun k => (W.q [(k, b)], σ2)) (q := ⟨K⟩) = W1 (keyD a) (q := _)
      cases keyD a <;> rfl
end
end FL
end
section
/-! The value layer: sorted(set(texts)), xs.pop(i), d.get(k). -/
namespace FL
open PySem PySem.Spec PyProof.Rows L2
/-! ### sorted(set(xs)) -/
def ddS : List Str → List Str
  | [] => []
  | x :: r => if x ∈ r then ddS r else x :: ddS r
theorem ddS_mem : ∀ {xs : List Str} {k : Str}, k ∈ ddS xs ↔ k ∈ xs
  | [], _ => Iff.rfl
  | x :: r, k => by
    unfold ddS
    split
    · rename_i h
      rw [ddS_mem (xs := r), List.mem_cons]
      exact ⟨Or.inr, fun z => z.elim (fun e => by rw [e]; exact h) id⟩
    · rw [List.mem_cons, List.mem_cons, ddS_mem (xs := r)]
theorem ddS_nd : ∀ (xs : List Str), (ddS xs).Nodup
  | [] => List.nodup_nil
  | x :: r => by
    unfold ddS
    split
    · exact ddS_nd r
    · rename_i h
      exact List.nodup_cons.mpr ⟨fun z => h (ddS_mem.mp z), ddS_nd r⟩
theorem ddS_len : ∀ (xs : List Str), (ddS xs).length ≤ xs.length
  | [] => Nat.le_refl _
  | x :: r => by
    unfold ddS
    have := ddS_len r
    split
    · rw [List.length_cons]
      omega
    · rw [List.length_cons, List.length_cons]
      omega
/-- the texts, each once, rising -/
def unqS (xs : List Str) : List Str := sortS (ddS xs)
theorem unqS_mem {xs : List Str} {k : Str} : k ∈ unqS xs ↔ k ∈ xs := (sortS_perm _).mem_iff.trans ddS_mem
theorem unqS_lt (xs : List Str) : (unqS xs).Pairwise ltS := sortS_lt (ddS_nd xs)
theorem unqS_len (xs : List Str) : (unqS xs).length ≤ xs.length := by
  unfold unqS
  rw [(sortS_perm _).length_eq]
  exact ddS_len xs
theorem lt_eq : ∀ {l1 l2 : List Str}, l1.Pairwise ltS → l2.Pairwise ltS → (∀ k, k ∈ l1 ↔ k ∈ l2) → l1 = l2
  | [], [], _, _, _ => rfl
  | [], b :: s, _, _, h => by
    have := (h b).mpr (List.mem_cons_self ..)
    cases this
  | a :: t, [], _, _, h => by
    have := (h a).mp (List.mem_cons_self ..)
    cases this
  | a :: t, b :: s, h1, h2, h => by
    have p1 := List.pairwise_cons.mp h1
    have p2 := List.pairwise_cons.mp h2
    have e : a = b := by
      rcases List.mem_cons.mp ((h a).mp (List.mem_cons_self ..)) with z | z
      · exact z
      · rcases List.mem_cons.mp ((h b).mpr (List.mem_cons_self ..)) with y | y
        · exact y.symm
        · exact (ltS_irrefl a (ltS_trans (p1.1 b y) (p2.1 a z))).elim
    subst e
    have : t = s := lt_eq p1.2 p2.2 fun k => by
      constructor
      · intro hk
        rcases List.mem_cons.mp ((h k).mp (List.mem_cons_of_mem _ hk)) with z | z
        · subst z
          exact (ltS_irrefl k (p1.1 k hk)).elim
        · exact z
      · intro hk
        rcases List.mem_cons.mp ((h k).mpr (List.mem_cons_of_mem _ hk)) with z | z
        · subst z
          exact (ltS_irrefl k (p2.1 k hk)).elim
        · exact z
    rw [this]
theorem lt_of_up {ss : List Str} (h : upTx ss) (nd : ss.Nodup) : ss.Pairwise ltS := (h.and nd).imp fun h => ltS_total h.1 fun z => h.2 z.symm
def strsD : List D → Option (List Str)
  | [] => some []
  | .str s :: r => (strsD r).map fun l => s :: l
  | _ => none
theorem strsD_ok : ∀ {ds : List D} {ss : List Str}, strsD ds = some ss → ds = ss.map D.str
  | [], ss, e => by
    cases e
    rfl
  | d :: r, ss, e => by
    cases d with
    | str s =>
      obtain ⟨l, e1, e2⟩ := map_some e
      subst e2
      rw [List.map_cons, ← strsD_ok e1]
    | _ => cases e
theorem strsD_of : ∀ (ss : List Str), strsD (ss.map D.str) = some ss
  | [] => rfl
  | s :: r => by
    show (strsD (r.map D.str)).map _ = _
    rw [strsD_of r]
    rfl
def gSortSet : G1 := fun x => match sqv [] x with
  | some (true, ds) => (strsD ds).bind fun ss => if ss.length < 64 then some (.lst ((unqS ss).map D.str)) else none
  | _ => none
def xSortSet (x : XE) : XE := xUn gSortSet x
theorem v_sortSet {te : TDE} {xe : XE} (a : SV te xe) : SE (dSortSet te) (xSortSet xe) := fun σ d σ' e δ h c R r q => by
  obtain ⟨⟨x, σ1⟩, e1, e⟩ := bind_some e
  obtain ⟨z, e3, e4⟩ := map_some e
  cases e4
  refine a σ x _ e1 δ h c _ r fun x' h1 c1 r1 ch1 vw => ?_
  have e3' : gSortSet x = some d := e3
  unfold gSortSet at e3'
  split at e3'
  · rename_i ds e5
    obtain ⟨ss, e6, e7⟩ := bind_some e3'
    split at e7
    · rename_i hl
      cases e7
      rw [strsD_ok e6] at e5
      refine ⟨ss, vw.sqv e5, hl, fun us up nd mm => ?_⟩
      rw [lt_eq (lt_of_up up nd) (unqS_lt ss) fun k => (mm k).trans unqS_mem.symm]
      exact q h1 c1 r1 ch1
    · cases e7
  · cases e3'
theorem g_sortSet {ss : List Str} (h : ss.length < 64) : gSortSet (.lst (ss.map D.str)) = some (.lst ((unqS ss).map D.str)) := by
  show (strsD (ss.map D.str)).bind _ = _
  rw [strsD_of]
  exact if_pos h
/-! ### xs.pop(i) -/
def xPopAt (j : Nat) (x : XE) : XE := fun σ => match σ[j]? with
  | some (some (.l _)) => (x σ).bind fun p => match p.1, p.2[j]? with
    | .int i, some (some (.l ds)) => if -(2 ^ 63) ≤ i ∧ i < 2 ^ 63 then (ixN ds.length i).bind fun k => ds[k]?.map fun y => (y, p.2.set j (some (.l (ds.eraseIdx k)))) else none
    | _, _ => none
  | _ => none
theorem v_popAt {j : Nat} {te : TDE} {xe : XE} (a : SE te xe) : SE (dBM "list" mPopAt (dVar j) (dCons te dNil)) (xPopAt j xe) := fun σ d σ' e δ h c R r q => by
  unfold xPopAt at e
  split at e
  · rename_i ds0 z0
    obtain ⟨d0, e0, n0, rfl, cn, hn⟩ := r.look j _ z0
    obtain ⟨⟨dv, σ1⟩, e1, e⟩ := bind_some e
    refine ⟨_, e0, Or.inl ⟨rfl, ds0, hn⟩, a σ _ σ1 e1 δ h c _ r fun h1 c1 r1 ch1 => ?_⟩
    dsimp only at e
    split at e
    · rename_i i ds z1
      split at e
      · rename_i hl
        obtain ⟨k, e2, e⟩ := bind_some e
        obtain ⟨y, e3, e4⟩ := map_some e
        cases e4
        obtain ⟨n, e5, e6, r3, ch3⟩ := r1.put (w' := .l (ds.eraseIdx k)) z1 rfl rfl
        rw [e0] at e5
        cases e5
        exact ⟨_, i, ds, k, d, rfl, rfl, e6, hl.1, hl.2, e2, e3, q _ _ r3 (ch1.trans ch3)⟩
      · cases e
    · cases e
  · cases e
/-! ### d.get(k) -/
def gGet1 : G2 := fun x y => match dcv [] x, keyD y with
  | some qs, some k => some ((valD qs k).getD .non)
  | _, _ => none
def xGet1 (xa xb : XE) : XE := fun σ => (xa σ).bind fun p => if (dcv [] p.1).isSome = true then (xb p.2).bind fun q => (gGet1 p.1 q.1).map fun r => (r, q.2) else none
theorem v_get1 {ta tb : TDE} {xa xb : XE} (ha : SE ta xa) (hb : SE tb xb) : SE (dDGet1 ta tb) (xGet1 xa xb) := fun σ d σ' e δ h c R r q => by
  obtain ⟨⟨x, σ1⟩, e1, e⟩ := bind_some e
  dsimp only at e
  split at e
  · rename_i hq
    obtain ⟨⟨y, σ2⟩, e2, e⟩ := bind_some e
    obtain ⟨z, e3, e4⟩ := map_some e
    cases e4
    obtain ⟨qs0, eq0⟩ := Option.isSome_iff_exists.mp hq
    refine ha σ x σ1 e1 δ h c _ r fun h1 c1 r1 ch1 => ⟨⟨qs0, (Vw.refl (h := h1)).dcv eq0⟩, hb σ1 y _ e2 δ h1 c1 _ r1 fun h2 c2 r2 ch2 => ?_⟩
    have e3' : gGet1 x y = some d := e3
    unfold gGet1 at e3'
    split at e3'
    · rename_i qs k e5 e6
      cases e3'
      exact ⟨qs, k, (Vw.refl (h := h2)).dcv e5, e6, q h2 c2 r2 (ch1.trans ch2)⟩
    · cases e3'
  · cases e
/-! ### list(xs), to be one of ours -/
def xListN (x : XE) : XF := fun σ => (x σ).bind fun p => match sqv [] p.1 with
  | some (_, es) => some (.l es, p.2)
  | none => none
theorem v_listN {te : TDE} {xe : XE} (a : SV te xe) : SF (dCB fListN (dCons te dNil)) (xListN xe) := fun σ w σ' e δ h c R r q => by
  obtain ⟨⟨x, σ1⟩, e1, e⟩ := bind_some e
  dsimp only at e
  split at e
  · rename_i k es e2
    cases e
    exact a σ x _ e1 δ h c _ r fun x' h1 c1 r1 ch1 va => ⟨x', k, es, rfl, va.sqv e2, push_f ch1 r1 rfl q⟩
  · cases e
section
variable {σ : VS} {xa xb : XE} {j : Nat} {K : D → VS → Prop}
theorem e_popAt : WE (xPopAt j xa σ) (q := ⟨K⟩) = WO σ[j]? (q := ⟨fun w => WLs w (q := ⟨fun _ => WE (xa σ) (q := ⟨fun a σ1 => WN a (q := ⟨fun i => WO σ1[j]? (q := ⟨fun w => WLs w (q := ⟨fun ds => WC (-(2 ^ 63) ≤ i ∧ i < 2 ^ 63) (W1 (ixN ds.length i) (q := ⟨fun k => W1 ds[k]? (q := ⟨fun y => K y (σ1.set j (some (.l (ds.eraseIdx k))))⟩)⟩))⟩)⟩)⟩)⟩)⟩)⟩) := by
  unfold xPopAt
  cases σ[j]? with
  | none => rfl
  | some u =>
    cases u with
    | none => rfl
    | some w =>
      cases w with
      | l _ =>
        show WE ((xa σ).bind _) (q := ⟨K⟩) = WE (xa σ) (q := _)
        cases xa σ with
        | none => rfl
        | some p =>
          obtain ⟨a, σ1⟩ := p
          cases a with
          | int i =>
            show WE (match D.int i, σ1[j]? with | .int i, some (some (W.l ds)) => if -(2 ^ 63) ≤ i ∧ i < 2 ^ 63 then (ixN ds.length i).bind fun k => ds[k]?.map fun y => (y, σ1.set j (some (.l (ds.eraseIdx k)))) else none | _, _ => none) (q := ⟨K⟩) = WO σ1[j]? (q := _)
            cases σ1[j]? with
            | none => rfl
            | some v =>
              cases v with
              | none => rfl
              | some w2 =>
                cases w2 with
                | l ds =>
                  show WE (if -(2 ^ 63) ≤ i ∧ i < 2 ^ 63 then (ixN ds.length i).bind fun k => ds[k]?.map fun y => (y, σ1.set j (some (W.l (ds.eraseIdx k)))) else none) (q := ⟨K⟩) = WC (-(2 ^ 63) ≤ i ∧ i < 2 ^ 63) _
                  by_cases z : -(2 ^ 63) ≤ i ∧ i < 2 ^ 63
                  · rw [if_pos z]
                    have e : ∀ P : Prop, WC (-(2 ^ 63) ≤ i ∧ i < 2 ^ 63) P = P := fun P => propext ⟨fun h => h.2, fun h => ⟨z, h⟩⟩
                    rw [e]
                    cases ixN ds.length i with
                    | none => rfl
                    | some k =>
                      show WE (ds[k]?.map fun y => (y, σ1.set j (some (W.l (ds.eraseIdx k))))) (q := ⟨K⟩) = W1 ds[k]? (q := _)
                      cases ds[k]? <;> rfl
                  · rw [if_neg z]
                    exact propext ⟨fun h => h.elim, fun h => z h.1⟩
                | _ => rfl
          | _ => rfl
      | _ => rfl
theorem e_get1 : WE (xGet1 xa xb σ) (q := ⟨K⟩) = WE (xa σ) (q := ⟨fun a σ1 => WC ((dcv [] a).isSome = true) (WE (xb σ1) (q := ⟨fun b σ2 => W1 (gGet1 a b) (q := ⟨fun r => K r σ2⟩)⟩))⟩) := by
  unfold xGet1
  cases xa σ with
  | none => rfl
  | some p =>
    obtain ⟨a, σ1⟩ := p
    show WE (if (dcv [] a).isSome = true then _ else none) (q := ⟨K⟩) = WC _ _
    by_cases z : (dcv [] a).isSome = true
    · rw [if_pos z]
      have e : ∀ P : Prop, WC ((dcv [] a).isSome = true) P = P := fun P => propext ⟨fun h => h.2, fun h => ⟨z, h⟩⟩
      rw [e]
      show WE ((xb σ1).bind _) (q := ⟨K⟩) = WE (xb σ1) (q := _)
      cases xb σ1 with
      | none => rfl
      | some q =>
        obtain ⟨b, σ2⟩ := q
        show WE ((gGet1 a b).map _) (q := ⟨K⟩) = W1 (gGet1 a b) (q := _)
        cases gGet1 a b <;> rfl
    · rw [if_neg z]
      exact propext ⟨fun h => h.elim, fun h => z h.1⟩
theorem e_listN {QW : W → VS → Prop} : WE (xListN xa σ) (q := ⟨QW⟩) = WE (xa σ) (q := ⟨fun d σ1 => W1 (sqv [] d) (q := ⟨fun p => QW (.l p.2) σ1⟩)⟩) := by
  unfold xListN
  cases xa σ with
  | none => rfl
  | some p =>
    obtain ⟨d, σ1⟩ := p
    show WE (match sqv [] d with | some (_, es) => some (W.l es, σ1) | none => none) (q := ⟨QW⟩) = W1 (sqv [] d) (q := _)
    cases sqv [] d <;> rfl
theorem g_get1S {qs : Qs} {s : Str} : gGet1 (dctD qs) (.str s) = some ((valD qs (Sum.inr s)).getD .non) := by
  unfold gGet1
  rw [dcv_d]
  rfl
end
end FL
end
section
/-! The value layer: dict(pairs) to be one of ours; lists and tuples of texts compared. -/
namespace FL
open PySem PySem.Spec PyProof.Rows L2
def xDictN (x : XE) : XF := fun σ => (x σ).bind fun p => match sqv [] p.1 with
  | some (true, es) => (asPairs es).map fun qs => (.q (mergeQ [] qs), p.2)
  | _ => none
theorem v_dictN {te : TDE} {xe : XE} (a : SV te xe) : SF (dCB fDictN (dCons te dNil)) (xDictN xe) := fun σ w σ' e δ h c R r q => by
  obtain ⟨⟨x, σ1⟩, e1, e⟩ := bind_some e
  dsimp only at e
  split at e
  · rename_i es e2
    obtain ⟨qs, e3, e4⟩ := map_some e
    cases e4
    rw [asPairs_ok e3] at e2
    exact a σ x _ e1 δ h c _ r fun x' h1 c1 r1 ch1 va => ⟨x', qs, rfl, va.sqv e2, push_f ch1 r1 rfl q⟩
  · cases e
section
variable {σ : VS} {xa : XE}
theorem e_dictN {QW : W → VS → Prop} : WE (xDictN xa σ) (q := ⟨QW⟩) = WE (xa σ) (q := ⟨fun d σ1 => W1 (sqv [] d) (q := ⟨fun p => WC (p.1 = true) (W1 (asPairs p.2) (q := ⟨fun qs => QW (.q (mergeQ [] qs)) σ1⟩))⟩)⟩) := by
  unfold xDictN
  cases xa σ with
  | none => rfl
  | some p =>
    obtain ⟨d, σ1⟩ := p
    show WE (match sqv [] d with | some (true, es) => (asPairs es).map fun qs => (W.q (mergeQ [] qs), σ1) | _ => none) (q := ⟨QW⟩) = W1 (sqv [] d) (q := _)
    cases sqv [] d with
    | none => rfl
    | some q =>
      obtain ⟨b, es⟩ := q
      cases b with
      | false => exact propext ⟨fun h => h.elim, fun h => nomatch h.1⟩
      | true =>
        show WE ((asPairs es).map fun qs => (W.q (mergeQ [] qs), σ1)) (q := ⟨QW⟩) = WC (true = true) (W1 (asPairs es) (q := _))
        cases asPairs es with
        | none => exact propext ⟨fun h => h.elim, fun h => h.2⟩
        | some qs => exact propext ⟨fun h => ⟨rfl, h⟩, fun h => h.2⟩
end
/-! ### texts compared -/
theorem eqv_strs : ∀ as bs : List Str, PyData.eqvAll (as.map PyData.str) (bs.map PyData.str) = decide (as = bs)
  | [], [] => by
    simp only [List.map_nil, PyData.eqvAll, decide_true]
  | [], _ :: _ => by
    simp only [List.map_nil, List.map_cons, PyData.eqvAll]
    rfl
  | _ :: _, [] => by
    simp only [List.map_nil, List.map_cons, PyData.eqvAll]
    rfl
  | a :: as, b :: bs => by
    simp only [List.map_cons, PyData.eqvAll, PyData.eqv]
    rw [eqv_strs as bs]
    by_cases z : a = b
    · subst z
      simp
    · simp [z]
theorem toP_txsT {ss : List Str} : toP (.tup (ss.map D.str)) = some (.tuple (ss.map PyData.str)) := by
  show (toPs (ss.map D.str)).map PyData.tuple = _
  rw [toPs_txs]
  rfl
theorem toP_txsL {ss : List Str} : toP (.lst (ss.map D.str)) = some (.list (ss.map PyData.str)) := by
  show (toPs (ss.map D.str)).map PyData.list = _
  rw [toPs_txs]
  rfl
theorem shapedT_txs {ss : List Str} (h : ∀ s ∈ ss, TxOk s) : SeqAt.shaped (.tuple (ss.map PyData.str)) = true := by
  unfold SeqAt.shaped
  have e1 : PyData.canLay0 (.tuple (ss.map PyData.str)) = true := lay_txs ss h
  have e2 : PyData.depth (.tuple (ss.map PyData.str)) = 0 + 1 := by
    show PyData.depthAll (ss.map PyData.str) + 1 = 0 + 1
    rw [depth_txs]
  rw [e1, e2]
  rfl
theorem g_eqTxT {as bs : List Str} (ha : ∀ s ∈ as, TxOk s) (hb : ∀ s ∈ bs, TxOk s) : gEq (.tup (as.map D.str)) (.tup (bs.map D.str)) = some (.bl (decide (as = bs))) := by
  show (match toP (.tup (as.map D.str)), toP (.tup (bs.map D.str)) with
    | some a, some b => if SeqAt.shaped a = true ∧ SeqAt.shaped b = true then some (D.bl (PyData.eqv a b)) else none
    | _, _ => none) = _
  rw [toP_txsT, toP_txsT]
  dsimp only
  rw [if_pos ⟨shapedT_txs ha, shapedT_txs hb⟩, ← eqv_strs as bs]
  simp only [PyData.eqv]
theorem g_eqTxL {as bs : List Str} (ha : ∀ s ∈ as, TxOk s) (hb : ∀ s ∈ bs, TxOk s) : gEq (.lst (as.map D.str)) (.lst (bs.map D.str)) = some (.bl (decide (as = bs))) := by
  show (match toP (.lst (as.map D.str)), toP (.lst (bs.map D.str)) with
    | some a, some b => if SeqAt.shaped a = true ∧ SeqAt.shaped b = true then some (D.bl (PyData.eqv a b)) else none
    | _, _ => none) = _
  rw [toP_txsL, toP_txsL]
  dsimp only
  rw [if_pos ⟨shaped_txs ha, shaped_txs hb⟩, ← eqv_strs as bs]
  simp only [PyData.eqv]
theorem g_neTxL {as bs : List Str} (ha : ∀ s ∈ as, TxOk s) (hb : ∀ s ∈ bs, TxOk s) : gNe (.lst (as.map D.str)) (.lst (bs.map D.str)) = some (.bl (!decide (as = bs))) := by
  show (match toP (.lst (as.map D.str)), toP (.lst (bs.map D.str)) with
    | some a, some b => if SeqAt.shaped a = true ∧ SeqAt.shaped b = true then some (D.bl (!PyData.eqv a b)) else none
    | _, _ => none) = _
  rw [toP_txsL, toP_txsL]
  dsimp only
  rw [if_pos ⟨shaped_txs ha, shaped_txs hb⟩, ← eqv_strs as bs]
  simp only [PyData.eqv]
end FL
end
section
/-! The value layer: a def whose new list is nobody's to change behind it: it is handed back as a value. -/
namespace FL
open PySem PySem.Spec PyProof.Rows L2
open Classical
def isV (w : W) : Prop := ∃ d, w = .v d
noncomputable def runZ (N : Nat) (x : XS) : VF := fun ws => if ∀ w ∈ ws, isV w then (runF N [] x ws).bind fun p => match p.1 with
  | .l ds => if okRs 0 ds then some (.v (.lst ds), p.2) else none
  | _ => none else none
theorem outW_v {σ : VS} : ∀ {ws : List W} {k : Nat} {ws' : List W}, (∀ w ∈ ws, isV w) → outW [] k ws σ = some ws' → ws' = ws
  | [], k, ws', _, e => by
    cases e
    rfl
  | w :: ws, k, ws', h, e => by
    unfold outW at e
    obtain ⟨w', e1, e⟩ := bind_some e
    obtain ⟨r', e2, e3⟩ := map_some e
    subst e3
    rw [if_neg List.not_mem_nil] at e1
    obtain ⟨d, rfl⟩ := h w (List.mem_cons_self ..)
    cases e1
    rw [outW_v (fun w hw => h w (List.mem_cons_of_mem _ hw)) e2]
theorem RpL.any {h : OS} {ws : List W} {ds : List D} {c c' : Co} (r : RpL h ws ds c) (hv : ∀ w ∈ ws, isV w) : RpL h ws ds c' := ⟨r.len, fun k w e => by
  obtain ⟨d, e1, rp⟩ := r.look k w e
  obtain ⟨x, rfl⟩ := hv w (List.mem_of_getElem? e)
  exact ⟨d, e1, rp⟩⟩
theorem v_fnZ {N : List Str} {n m : Nat} {t : TDS} {x : XS} (s : SS [] t x) (hm : N.length = m) : ∀ ds h (R : DK) (RE : DX), okOs h.length h → okRs h.length ds → spV n (runZ m x) ds h R RE → t { nx := fun _ h' => Ret R h.length .non h', rt := Ret R h.length } (startD N ds) h := by
  rintro ds h R RE ok _ ⟨_, ws, c, w, ws', r, e, q⟩
  unfold runZ at e
  split at e
  · rename_i hv
    obtain ⟨⟨w1, ws1⟩, e1, e⟩ := bind_some e
    dsimp only at e
    split at e
    · rename_i es
      split at e
      · rename_i oke
        cases e
        unfold runF at e1
        obtain ⟨o, e2, e1⟩ := bind_some e1
        refine s _ o e2 (startD N ds) h (fun _ => none) _ (start_rp (r.any hv) hm) ?_
        cases o with
        | nx σ =>
          obtain ⟨z, e3, e4⟩ := map_some e1
          cases e4
        | rt w2 σ =>
          obtain ⟨z, e3, e4⟩ := map_some e1
          cases e4
          have ez := outW_v hv e3
          subst ez
          intro d δ' h' c' S r' ch fx rp fr
          obtain ⟨k, rfl, sk, hk⟩ := rp
          obtain ⟨f1, f2, f3⟩ := fr k sk
          have ge : h.length ≤ k := Nat.le_of_not_lt fun z => f3 z rfl
          have pre : h' = h ++ h'.drop h.length := by
            have e5 : h'.take h.length = h := by
              refine List.ext_getElem? fun i => ?_
              by_cases hi : i < h.length
              · rw [List.getElem?_take_of_lt hi, List.getElem?_eq_getElem hi]
                exact (ch.kp i _ (List.getElem?_eq_getElem hi) rfl).1
              · rw [List.getElem?_eq_none (by rw [List.length_take]; omega), List.getElem?_eq_none (by omega)]
            have e6 := List.take_append_drop h.length h'
            rw [e5] at e6
            exact e6.symm
          refine Or.inr ⟨h, _, pre, Nat.le_refl _, ok, Or.inr ⟨k, _, rfl, ge, hk, okRs.mono (Nat.zero_le _) oke, ?_⟩⟩
          exact q (.lst es) h c (fun _ => False) (r.any hv) Ch.refl rfl fun n z => z.elim
        | bk σ => cases e1
        | ct σ => cases e1
      · cases e
    · cases e
  · cases e
theorem z_run {N : Nat} {x : XS} {ws : List W} {Q : W → List W → Prop} (h : ∀ w ∈ ws, isV w) (q : WE (runF N [] x ws) (q := ⟨(fun w ws2 => ∃ ds, w = .l ds ∧ okRs 0 ds ∧ Q (.v (.lst ds)) ws2)⟩)) : WE (runZ N x ws) (q := ⟨Q⟩) := by
  obtain ⟨w, ws', e, ds, rfl, ok, q⟩ := q.ex
  refine WE.mk (a := .v (.lst ds)) (b := ws') ?_ q
  unfold runZ
  rw [if_pos h, e]
  show (if okRs 0 ds then some (W.v (.lst ds), ws') else none) = _
  rw [if_pos ok]
theorem okRs_txs {n : Nat} (us : List Str) : okRs n (us.map D.str) := okRs_strs (fun x => x) us
end FL
end
section
/-! The value layer: xs[::-1]. -/
namespace FL
open PySem PySem.Spec PyProof.Rows L2
def gRev : G2 := fun x y => match y with
  | .int i => if i = -1 then (match sqv [] x with
    | some (k, ds) => some (if k = true then .lst ds.reverse else .tup ds.reverse)
    | none => none) else none
  | _ => none
theorem b_rev : Bi2 fRev gRev := by
  intro a a' b b' r h R e va vb q
  unfold gRev at e
  split at e
  · rename_i i
    rw [vb.int]
    split at e
    · rename_i hi
      subst hi
      split at e
      · rename_i k ds e1
        cases e
        exact ⟨rfl, k, ds, va.sqv e1, q⟩
      · cases e
    · cases e
  · cases e
theorem g_revT {ds : List D} : gRev (.tup ds) (.int (-1)) = some (.tup ds.reverse) := rfl
theorem g_revL {ds : List D} : gRev (.lst ds) (.int (-1)) = some (.lst ds.reverse) := rfl
end FL
end
section
/-! The value layer: x is True, of truths. -/
namespace FL
open PySem PySem.Spec PyProof.Rows L2
def gIsB : G2 := fun x y => match x, y with
  | .bl b, .bl c => some (.bl (decide (b = c)))
  | _, _ => none
def gNotB : G2 := fun x y => match x, y with
  | .bl b, .bl c => some (.bl (!decide (b = c)))
  | _, _ => none
theorem b_isB : Bi2 fIsB gIsB := by
  intro a a' b b' r h R e va vb q
  unfold gIsB at e
  split at e
  · cases e
    rw [va.bl, vb.bl]
    exact ⟨_, _, rfl, rfl, q⟩
  · cases e
theorem b_notB : Bi2 fNotB gNotB := by
  intro a a' b b' r h R e va vb q
  unfold gNotB at e
  split at e
  · cases e
    rw [va.bl, vb.bl]
    exact ⟨_, _, rfl, rfl, q⟩
  · cases e
theorem g_isB {b c : Bool} : gIsB (.bl b) (.bl c) = some (.bl (decide (b = c))) := rfl
theorem g_notB {b c : Bool} : gNotB (.bl b) (.bl c) = some (.bl (!decide (b = c))) := rfl
end FL
end
section
/-! The value layer: a name's list walked, be it the name's own or a value. -/
namespace FL
open PySem PySem.Spec PyProof.Rows L2
def mixD (i : Nat) : W → Option (List D × (VS → Prop))
  | .l ds => some (ds, fun σ2 => σ2[i]? = some (some (.l ds)))
  | .v (.lst ds) => some (ds, gdT)
  | _ => none
def iQ (i : Nat) : XI := fun σ => match σ[i]? with
  | some (some w) => (mixD i w).map fun p => (p, σ)
  | _ => none
theorem v_iQ {P : List Nat} {i : Nat} (hi : i ∈ P) : SI P (iSeq (dVar i)) (iQ i) := fun σ its gd σ' e δ h c RS r q => by
  unfold iQ at e
  split at e
  · rename_i w z
    obtain ⟨p, e1, e2⟩ := map_some e
    cases e2
    unfold mixD at e1
    split at e1
    · rename_i ds
      cases e1
      exact v_iP hi σ _ _ _ (by unfold iP; rw [z]) δ h c RS r q
    · rename_i ds
      cases e1
      exact v_iL (v_var (i := i)) σ _ _ _ (by unfold iL xVar; rw [z]; rfl) δ h c RS r q
    · cases e1
  · cases e
section
variable {σ : VS} {i : Nat}
theorem e_iQ {K : QI} : WE (iQ i σ) (q := ⟨K⟩) = WO σ[i]? (q := ⟨fun w => W1 (mixD i w) (q := ⟨fun p => K p σ⟩)⟩) := by
  unfold iQ
  cases σ[i]? with
  | none => rfl
  | some u =>
    cases u with
    | none => rfl
    | some w =>
      show WE ((mixD i w).map fun p => (p, σ)) (q := ⟨K⟩) = W1 (mixD i w) (q := _)
      cases mixD i w <;> rfl
theorem mix_l {ds : List D} : mixD i (.l ds) = some (ds, fun σ2 => σ2[i]? = some (some (.l ds))) := rfl
theorem mix_v {ds : List D} : mixD i (.v (.lst ds)) = some (ds, gdT) := rfl
end
end FL
end
section
/-! The value layer: a def handed on as a value, upper, repr of values with dicts, dict displays as values. -/
namespace FL
open PySem PySem.Spec PyProof.Rows L2
open Classical
noncomputable def xFnL (i : Nat) (f : Addr) (n : Nat) (F : VF) (as : List Ar) : XF := fun σ => match σ[i]? with
  | some (some (.v (.obj a))) => if a = f then xFn n F as σ else none
  | _ => none
theorem v_callL {t : TDA} {as : List Ar} {n i : Nat} {f : Addr} {F : VF} (ha : SAr t as) : SF (dFnL i f (spV n F) t) (xFnL i f n F as) := fun σ w σ' e δ h c R r q => by
  unfold xFnL at e
  split at e
  · rename_i a z
    split at e
    · rename_i hf
      subst hf
      obtain ⟨d, e1, e2⟩ := r.look i _ z
      have e3 : d = .obj a := e2
      subst e3
      exact ⟨e1, call_v ha e r q⟩
    · cases e
  · cases e
def gUpper : G1 := fun x => match x with
  | .str a => if a.length ≤ 5592405 then some (.str (Txt.upper a)) else none
  | _ => none
theorem v_upper {te : TDE} {xe : XE} (a : SE te xe) : SE (dBM "str" mUpper te dNil) (xUn gUpper xe) := fun σ d σ' e δ h c R r q => by
  obtain ⟨⟨x, σ1⟩, e1, e⟩ := bind_some e
  obtain ⟨z, e3, e4⟩ := map_some e
  cases e4
  refine a σ x _ e1 δ h c _ r fun h1 c1 r1 ch1 => ?_
  have e3' : gUpper x = some d := e3
  cases x with
  | str s =>
    unfold gUpper at e3'
    dsimp only at e3'
    split at e3'
    · rename_i hl
      cases e3'
      exact ⟨rfl, s, rfl, rfl, hl, q h1 c1 r1 ch1⟩
    · cases e3'
  | _ => cases e3'
noncomputable def gReprX : G1 := fun x => match toPX x with
  | some p => if ShowX p then some (.str p.shown) else none
  | none => none
theorem v_reprX {te : TDE} {xe : XE} (a : SE te xe) : SE (dCB fReprX (dCons te dNil)) (xUn gReprX xe) := fun σ d σ' e δ h c R r q => by
  obtain ⟨⟨x, σ1⟩, e1, e⟩ := bind_some e
  obtain ⟨z, e3, e4⟩ := map_some e
  cases e4
  refine a σ x _ e1 δ h c _ r fun h1 c1 r1 ch1 => ?_
  have e3' : gReprX x = some d := e3
  unfold gReprX at e3'
  split at e3'
  · rename_i p ep
    split at e3'
    · rename_i hs
      cases e3'
      exact ⟨x, p, rfl, ep, hs, q h1 c1 r1 ch1⟩
    · cases e3'
  · cases e3'
/-- the heap stays as it is: names, written things -/
def SQ (t : TDE) (x : XE) : Prop := ∀ σ d σ', x σ = some (d, σ') → σ' = σ ∧ ∀ δ h c (R : DK), RpS h σ δ c → R d h → t δ h R
theorem q_var {i : Nat} : SQ (dVar i) (xVar i) := fun σ d σ' e => by
  unfold xVar at e
  split at e
  · rename_i d' z
    cases e
    refine ⟨rfl, fun δ h c R r q => ?_⟩
    obtain ⟨d2, e2, e3⟩ := r.look i _ z
    have e3' : d2 = d := e3
    subst e3'
    exact ⟨_, e2, q⟩
  · cases e
theorem q_k {d : D} : SQ (dC d) (xC d) := fun σ d' σ' e => by
  cases e
  exact ⟨rfl, fun δ h c R r q => q⟩
noncomputable def xDispV (xk xv : XE) : XE := fun σ => (xk σ).bind fun p => (xv p.2).bind fun q => (keyD p.1).bind fun k => if okR 0 q.1 then some (.dct [k] [q.1], q.2) else none
theorem v_dispV {tk tv : TDE} {xk xv : XE} (a : SQ tk xk) (b : SQ tv xv) : SE (dDispV tk tv) (xDispV xk xv) := fun σ d σ' e δ h c R r q => by
  obtain ⟨⟨dk, σ1⟩, e1, e⟩ := bind_some e
  obtain ⟨⟨dv, σ2⟩, e2, e⟩ := bind_some e
  obtain ⟨k, e3, e⟩ := bind_some e
  dsimp only at e
  split at e
  · rename_i hok
    cases e
    obtain ⟨z1, g1⟩ := a σ dk σ1 e1
    subst z1
    obtain ⟨z2, g2⟩ := b _ dv _ e2
    subst z2
    obtain ⟨r0, _⟩ := r.push (.dct [])
    exact g1 δ _ _ _ r0 (g2 δ _ _ _ r0 ⟨k, e3, rfl, hok, q h c r Ch.refl⟩)
  · cases e
def xDNewV : XE := fun σ => some (.dct [] [], σ)
theorem v_dnewV : SE dDNewV xDNewV := fun σ d σ' e δ h c R r q => by
  cases e
  exact q h c r Ch.refl
section
variable {σ : VS} {xk xv : XE} {Q : D → VS → Prop} {QW : W → VS → Prop}
theorem e_fnL {i n : Nat} {f : Addr} {F : VF} {as : List Ar} : WE (xFnL i f n F as σ) (q := ⟨QW⟩) = WO σ[i]? (q := ⟨fun w => WPv w (q := ⟨fun d => WC (d = .obj f) (WE (xFn n F as σ) (q := ⟨QW⟩))⟩)⟩) := by
  unfold xFnL
  cases σ[i]? with
  | none => rfl
  | some u =>
    cases u with
    | none => rfl
    | some w =>
      cases w with
      | v d =>
        cases d with
        | obj a =>
          show WE (if a = f then xFn n F as σ else none) (q := ⟨QW⟩) = WC (D.obj a = .obj f) _
          by_cases z : a = f
          · subst z
            rw [if_pos rfl]
            exact propext ⟨fun h => ⟨rfl, h⟩, fun h => h.2⟩
          · rw [if_neg z]
            exact propext ⟨fun h => h.elim, fun h => z (by injection h.1)⟩
        | _ => exact propext ⟨fun h => h.elim, fun h => nomatch h.1⟩
      | _ => rfl
theorem e_dispV : WE (xDispV xk xv σ) (q := ⟨Q⟩) = WE (xk σ) (q := ⟨fun a σ1 => WE (xv σ1) (q := ⟨fun b σ2 => W1 (keyD a) (q := ⟨fun k => WC (okR 0 b) (Q (.dct [k] [b]) σ2)⟩)⟩)⟩) := by
  unfold xDispV
  cases xk σ with
  | none => rfl
  | some p =>
    show WE ((xv p.2).bind _) (q := ⟨Q⟩) = WE (xv p.2) (q := _)
    cases xv p.2 with
    | none => rfl
    | some q =>
      show WE ((keyD p.1).bind _) (q := ⟨Q⟩) = W1 (keyD p.1) (q := _)
      cases keyD p.1 with
      | none => rfl
      | some k =>
        show WE (if okR 0 q.1 then some (D.dct [k] [q.1], q.2) else none) (q := ⟨Q⟩) = WC (okR 0 q.1) _
        by_cases z : okR 0 q.1
        · rw [if_pos z]
          exact propext ⟨fun h => ⟨z, h⟩, fun h => h.2⟩
        · rw [if_neg z]
          exact propext ⟨fun h => h.elim, fun h => z h.1⟩
theorem e_dnewV : WE (xDNewV σ) (q := ⟨Q⟩) = Q (.dct [] []) σ := rfl
theorem g_upper {a : Str} {K : D → Prop} : W1 (gUpper (.str a)) (q := ⟨K⟩) = WC (a.length ≤ 5592405) (K (.str (Txt.upper a))) := ite_w1
end
end FL
end
section
/-! The value layer: xs + ys as one of ours; what is shown. -/
namespace FL
open PySem PySem.Spec PyProof.Rows L2
open Classical
def xAddN (i : Nat) (xb : XE) : XF := fun σ => match σ[i]? with
  | some (some _) => (xb σ).bind fun q => match q.2[i]? with
    | some (some w) => w.vo.bind fun x => match x, q.1 with
      | .lst as, .lst bs => if as.length + bs.length ≤ 16777216 then some (.l (as ++ bs), q.2) else none
      | _, _ => none
    | _ => none
  | _ => none
theorem v_addN {i : Nat} {tb : TDE} {xb : XE} (hb : SE tb xb) : SF (dOp fAddN (dVar i) tb) (xAddN i xb) := fun σ w' σ' e δ h c R r q => by
  unfold xAddN at e
  split at e
  · rename_i w0 z0
    obtain ⟨d0, e0, _⟩ := r.look i _ z0
    obtain ⟨⟨b, σ2⟩, e2, e⟩ := bind_some e
    dsimp only at e
    split at e
    · rename_i w z
      obtain ⟨x, ex, e⟩ := bind_some e
      split at e
      · rename_i as bs _hh
        split at e
        · rename_i hl
          cases e
          refine ⟨d0, e0, hb σ _ _ e2 δ h c _ r fun h2 c2 r2 ch2 => ?_⟩
          obtain ⟨d1, e5, rp⟩ := r2.look i _ z
          rw [e0] at e5
          cases e5
          have g1 : lsv h2 d0 = some as := by
            rcases rp.vw ex with rfl | ⟨n, o, rfl, eo, ev⟩
            · rfl
            · cases o <;> cases ev
              show (match h2[n]? with | some (.lst ds) => some ds | _ => none) = _
              rw [eo]
          exact ⟨as, bs, g1, rfl, hl, push_f ch2 r2 rfl q⟩
        · cases e
      · cases e
    · cases e
  · cases e
section
variable {σ : VS} {i : Nat} {xb : XE} {QW : W → VS → Prop}
theorem e_addN : WE (xAddN i xb σ) (q := ⟨QW⟩) = WO σ[i]? (q := ⟨fun _ => WE (xb σ) (q := ⟨fun b σ2 => WO σ2[i]? (q := ⟨fun w => W1 w.vo (q := ⟨fun x => WE (match x, b with | .lst as, .lst bs => if as.length + bs.length ≤ 16777216 then some (W.l (as ++ bs), σ2) else none | _, _ => none) (q := ⟨QW⟩)⟩)⟩)⟩)⟩) := by
  unfold xAddN
  cases σ[i]? with
  | none => rfl
  | some u =>
    cases u with
    | none => rfl
    | some w =>
      show WE ((xb σ).bind _) (q := ⟨QW⟩) = WE (xb σ) (q := _)
      cases xb σ with
      | none => rfl
      | some q =>
        obtain ⟨q1, q2⟩ := q
        show WE (match q2[i]? with | some (some w) => w.vo.bind fun x => (match x, q1 with | .lst as, .lst bs => if as.length + bs.length ≤ 16777216 then some (W.l (as ++ bs), q2) else none | _, _ => none) | _ => none) (q := ⟨QW⟩) = WO q2[i]? (q := _)
        cases q2[i]? with
        | none => rfl
        | some v =>
          cases v with
          | none => rfl
          | some w2 =>
            show WE (w2.vo.bind _) (q := ⟨QW⟩) = W1 w2.vo (q := _)
            cases w2.vo <;> rfl
theorem g_addN {as bs : List D} {σ2 : VS} : WE (match (D.lst as), (D.lst bs) with | .lst as, .lst bs => if as.length + bs.length ≤ 16777216 then some (W.l (as ++ bs), σ2) else none | _, _ => none) (q := ⟨QW⟩) = WC (as.length + bs.length ≤ 16777216) (QW (.l (as ++ bs)) σ2) := by
  show WE (if as.length + bs.length ≤ 16777216 then some (W.l (as ++ bs), σ2) else none) (q := ⟨QW⟩) = _
  exact ite_wc
end
theorem g_reprX {d : D} {n m : Nat} (h : PX d n m) (hn : n ≤ 16777216) (hm : m ≤ 60) : ∃ t, gReprX d = some (.str t) := by
  obtain ⟨p, e, h1⟩ := h
  refine ⟨p.shown, ?_⟩
  unfold gReprX
  rw [e]
  exact if_pos (h1.show hn hm)
end FL
end
section
namespace LK
open PySem L2 FL
/-- _law_deck(_law_cell): 0 _law_cell -/
noncomputable def X_law_deck : XS := (xRet (xLstN (xCons (xOp gMul (xVar 0) (xUn gInt (xOp gGe (xVar 0) (xOp gPow (xC (.int 10)) (xC (.int 18)))))) (xCons (xOp gMod (xVar 0) (xC (.int 2147483587))) (xCons (xC (.int 0)) xNil)))))
noncomputable def F_law_deck : VF := runF 1 [] X_law_deck
/-- _law_draw(_law_deck_here, _law_bound): 0 _law_deck_here, 1 _law_bound, 2 _law_got, 3 _law_mixed -/
noncomputable def X_law_draw : XS := (xSeq (xIfS (xB (xOp gGt (xOpP gIx 0 (xC (.int 0))) (xC (.int 0))))
            (xSeq (xAsg (xOp gMod (xOpP gIx 0 (xC (.int 0))) (xVar 1)) (yN 2))
            (xSeq (xSetL 0 (xC (.int 0)) (xOp gDiv (xOpP gIx 0 (xC (.int 0))) (xVar 1)))
            (xRet (xV (xVar 2)))))
            xNext)
        (xSeq (xSetL 0 (xC (.int 2)) (xOp gAdd (xOpP gIx 0 (xC (.int 2))) (xC (.int 1))))
        (xSeq (xAsg (xOp gMod (xOp gMul (xOp gAdd (xOp gAdd (xOpP gIx 0 (xC (.int 1))) (xOp gMul (xC (.int 104729)) (xOpP gIx 0 (xC (.int 2))))) (xC (.int 17))) (xC (.int 48271))) (xC (.int 2147483647))) (yN 3))
        (xSeq (xAsg (xOp gMod (xOp gAdd (xOp gAdd (xOp gMul (xVar 3) (xVar 3)) (xOp gMul (xC (.int 69621)) (xVar 3))) (xOpP gIx 0 (xC (.int 2)))) (xC (.int 2147483629))) (yN 3))
        (xRet (xV (xOp gMod (xOp gDiv (xOp gMod (xOp gMul (xVar 3) (xC (.int 39373))) (xC (.int 2147483563))) (xC (.int 8))) (xVar 1))))))))
noncomputable def F_law_draw : VF := runF 4 [0] X_law_draw
/-- _law_pick(_law_deck_here, _law_some): 0 _law_deck_here, 1 _law_some -/
noncomputable def X_law_pick : XS := (xRet (xV (xOp gIx (xVar 1) (xD (xFn 2 F_law_draw [.rf 0, .ex (xV (xUn gLen (xVar 1)))])))))
noncomputable def F_law_pick : VF := runF 2 [0] X_law_pick
/-- _law_words(_law_deck_here, _law_many): 0 _law_deck_here, 1 _law_many, 2 _law_letters, 3 _law_way, 4 _law_word, 5 _law_base, 6 _law_at, 7 _law_first, 8 _law_k -/
noncomputable def X_law_words : XS := (xSeq (xAsg (xC (.str "abcdefghijklmnopqrstuvwxyz")) (yN 2))
        (xSeq (xAsg (xP (xFn 2 F_law_draw [.rf 0, .ex (xV (xC (.int 3)))])) (yN 3))
        (xSeq (xAsg (xOp gJoin (xC (.str "")) (xD (xLc (iR1 (xOp gAdd (xC (.int 1)) (xD (xFn 2 F_law_draw [.rf 0, .ex (xV (xC (.int 8)))])))) (yC (.one 8)) xYes (xOp gIx (xVar 2) (xD (xFn 2 F_law_draw [.rf 0, .ex (xV (xC (.int 26)))]))) [8]))) (yN 4))
        (xSeq (xIfS (xAnd (xB (xOp gEq (xVar 3) (xC (.int 0)))) (xB (xOp gLt (xVar 1) (xC (.int 9)))))
            (xSeq (xAsg (xSl (xOp gAdd (xVar 4) (xC (.str "abcdefgh"))) xNo (xPt (xC (.int 8)))) (yN 5))
            (xRet (xLc (iR1 (xVar 1)) (yC (.one 8)) xYes (xSl (xVar 5) xNo (xPt (xOp gAdd (xC (.int 1)) (xVar 8)))) [8])))
            xNext)
        (xSeq (xAsg (xP (xFn 2 F_law_draw [.rf 0, .ex (xV (xUn gLen (xVar 4)))])) (yN 6))
        (xSeq (xAsg (xP (xFn 2 F_law_draw [.rf 0, .ex (xV (xC (.int 26)))])) (yN 7))
        (xRet (xLc (iR1 (xVar 1)) (yC (.one 8)) xYes (xOp gAdd (xOp gAdd (xSl (xVar 4) xNo (xPt (xVar 6))) (xOp gIx (xVar 2) (xOp gMod (xOp gAdd (xVar 7) (xOp gMul (xC (.int 3)) (xVar 8))) (xC (.int 26))))) (xSl (xVar 4) (xPt (xOp gAdd (xVar 6) (xC (.int 1)))) xNo)) [8]))))))))
noncomputable def F_law_words : VF := runF 9 [0] X_law_words
/-- _law_number(_law_deck_here, _law_most_so): 0 _law_deck_here, 1 _law_most_so -/
noncomputable def X_law_number : XS := (xRet (xV (xOp gMin (xVar 1) (xOp gIx (xLst (xCons (xOp gAdd (xC (.int 1)) (xD (xFn 2 F_law_draw [.rf 0, .ex (xV (xC (.int 9)))]))) (xCons (xC (.int 9)) (xCons (xC (.int 10)) (xCons (xC (.int 99)) (xCons (xC (.int 100)) (xCons (xC (.int 1000)) (xCons (xOp gAdd (xC (.int 1)) (xD (xFn 2 F_law_draw [.rf 0, .ex (xV (xC (.int 1000)))]))) xNil)))))))) (xD (xFn 2 F_law_draw [.rf 0, .ex (xV (xC (.int 7)))]))))))
noncomputable def F_law_number : VF := runF 2 [0] X_law_number
/-- _law_ways(_law_deck_here): 0 _law_deck_here, 1 _law_lanes, 2 _law_part, 3 _law_keep -/
noncomputable def X_law_ways : XS := (xSeq (xAsg (xOp gAdd (xC (.int 1)) (xD (xFn 2 F_law_draw [.rf 0, .ex (xV (xC (.int 4)))]))) (yN 1))
        (xSeq (xAsg (xOp gIx (xLst (xCons (xC (.int 1)) (xCons (xC (.int 2)) (xCons (xC (.int 3)) (xCons (xC (.int 9)) (xCons (xC (.int 100)) (xCons (xOp gAdd (xC (.int 1)) (xD (xFn 2 F_law_draw [.rf 0, .ex (xV (xC (.int 100)))]))) xNil))))))) (xD (xFn 2 F_law_draw [.rf 0, .ex (xV (xC (.int 6)))]))) (yN 2))
        (xSeq (xAsg (xOp gIx (xLst (xCons (xC (.int 0)) (xCons (xOp gMin (xC (.int 1)) (xOp gSub (xVar 2) (xC (.int 1)))) (xCons (xOp gSub (xVar 2) (xC (.int 1))) (xCons (xP (xFn 2 F_law_draw [.rf 0, .ex (xV (xVar 2))])) xNil))))) (xD (xFn 2 F_law_draw [.rf 0, .ex (xV (xC (.int 4)))]))) (yN 3))
        (xRet (xV (xTup (xCons (xVar 1) (xCons (xVar 2) (xCons (xVar 3) (xCons (xOp gIx (xLst (xCons (xC (.int 1)) (xCons (xC (.int 2)) (xCons (xC (.int 5)) (xCons (xC (.int 100)) (xCons (xOp gAdd (xC (.int 1)) (xD (xFn 2 F_law_draw [.rf 0, .ex (xV (xC (.int 100)))]))) xNil)))))) (xD (xFn 2 F_law_draw [.rf 0, .ex (xV (xC (.int 5)))]))) xNil))))))))))
noncomputable def F_law_ways : VF := runF 4 [0] X_law_ways
/-- _law_groups(_law_deck_here, _law_great): 0 _law_deck_here, 1 _law_great, 2 _law_names, 3 _law_left, 4 _law_order, 5 _law_deep, 6 _law_above, 7 _law_k, 8 _law_name, 9 _law_some, 10 _law_found, 11 _law_over, 12 _law_period, 13 _law_one -/
noncomputable def X_law_groups : XS := (xSeq (xAsgF (xFn 2 F_law_words [.rf 0, .ex (xV (xOp gIx (xLst (xCons (xOp gAdd (xC (.int 1)) (xD (xFn 2 F_law_draw [.rf 0, .ex (xV (xC (.int 5)))]))) (xCons (xC (.int 8)) xNil))) (xVar 1)))]) 2)
        (xSeq (xAsgF (xListN (xRd 2)) 3)
        (xSeq (xAsgF (xLc (iR1 (xUn gLen (xRd 2))) (yC (.one 7)) xYes (xPopAt 3 (xP (xFn 2 F_law_draw [.rf 0, .ex (xV (xUn gLen (xRd 3)))]))) [7]) 4)
        (xSeq (xAsgF xDNew 5)
        (xSeq (xAsgF xDNew 6)
        (xSeq (xFor (iEnP 4) (yT 2 (ysCons (yN 7) (ysCons (yN 8) ysNil)))
            (xSeq (xAsgF (xLc (iL (xSlP 4 xNo (xPt (xVar 7)))) (yC (.one 13)) (xB (xOp gLt (xOpP gDGet 5 (xVar 13)) (xC (.int 4)))) (xVar 13) [13]) 9)
            (xSeq (xDPut 6 (xVar 8) (xC .non))
            (xSeq (xIfS (xAnd (xB (xOpP gNe 9 (xLst xNil))) (xB (xOpF gGt (xFn 2 F_law_draw [.rf 0, .ex (xV (xC (.int 3)))]) (xC (.int 0)))))
                (xDPut 6 (xVar 8) (xOpP gIx 9 (xOp gIx (xLst (xCons (xOp gSub (xUn gLen (xRd 9)) (xC (.int 1))) (xCons (xP (xFn 2 F_law_draw [.rf 0, .ex (xV (xUn gLen (xRd 9)))])) xNil))) (xD (xFn 2 F_law_draw [.rf 0, .ex (xV (xC (.int 2)))])))))
                xNext)
            (xDPut 5 (xVar 8) (xOp gAdd (xC (.int 1)) (xGet 5 (xOpP gDGet 6 (xVar 8)) (xC (.int 0)))))))))
        (xSeq (xAsgF (xLstN xNil) 10)
        (xSeq (xFor (iL (xUn gSorted (xRd 2))) (yN 8)
            (xSeq (xAsg (xOp gIx (xLst (xCons (xC (.int 0)) (xCons (xC (.int 1)) (xCons (xP (xFn 2 F_law_number [.rf 0, .ex (xV (xC (.int 1000)))])) (xCons (xC (.int 1000)) xNil))))) (xD (xFn 2 F_law_draw [.rf 0, .ex (xV (xC (.int 4)))]))) (yN 11))
            (xSeq (xAsg (xOp gIx (xLst (xCons (xC (.int 1)) (xCons (xC (.int 2)) (xCons (xC (.int 3)) (xCons (xC (.int 5)) (xCons (xC (.int 9)) (xCons (xC (.int 10)) (xCons (xC (.int 100)) (xCons (xP (xFn 2 F_law_number [.rf 0, .ex (xV (xC (.int 1000)))])) xNil))))))))) (xD (xFn 2 F_law_draw [.rf 0, .ex (xV (xC (.int 8)))]))) (yN 12))
            (xDrop (xApp 10 (xTup (xCons (xVar 8) (xCons (xOpP gDGet 6 (xVar 8)) (xCons (xP (xFn 2 F_law_number [.rf 0, .ex (xV (xC (.int 1000)))])) (xCons (xVar 12) (xCons (xVar 11) xNil)))))))))))
        (xRet (xV (xUn gTuple (xRd 10))))))))))))
noncomputable def F_law_groups : VF := runF 14 [0] X_law_groups
/-- _law_plan(_law_deck_here): 0 _law_deck_here, 1 _law_great, 2 _law_ways_here, 3 _law_groups_here, 4 _law_names, 5 _law_found, 6 _law_name, 7 _law_weight -/
noncomputable def X_law_plan : XS := (xSeq (xAsg (xUn gInt (xOpF gEq (xFn 2 F_law_draw [.rf 0, .ex (xV (xC (.int 8)))]) (xC (.int 5)))) (yN 1))
        (xSeq (xAsg (xP (xFn 1 F_law_ways [.rf 0])) (yN 2))
        (xSeq (xAsg (xP (xFn 2 F_law_groups [.rf 0, .ex (xV (xVar 1))])) (yN 3))
        (xSeq (xAsgF (xFn 2 F_law_words [.rf 0, .ex (xV (xOp gIx (xLst (xCons (xP (xFn 2 F_law_draw [.rf 0, .ex (xV (xC (.int 7)))])) (xCons (xC (.int 12)) xNil))) (xVar 1)))]) 4)
        (xSeq (xIfS (xAnd (xB (xOpF gEq (xFn 2 F_law_draw [.rf 0, .ex (xV (xC (.int 3)))]) (xC (.int 1)))) (xB (xOpP gNe 4 (xLst xNil))))
            (xAsgF (xV (xOp gAdd (xLst (xCons (xOp gIx (xOp gIx (xVar 3) (xC (.int 0))) (xC (.int 0))) xNil)) (xSlP 4 (xPt (xC (.int 1))) xNo))) 4)
            xNext)
        (xSeq (xAsgF (xLstN xNil) 5)
        (xSeq (xFor (iL (xSortSet (xRd 4))) (yN 6)
            (xSeq (xAsg (xOp gIx (xLst (xCons (xC (.int 1)) (xCons (xC (.int 2)) (xCons (xC (.int 3)) (xCons (xC (.int 7)) (xCons (xC (.int 100)) (xCons (xOp gAdd (xC (.int 1)) (xD (xFn 2 F_law_draw [.rf 0, .ex (xV (xC (.int 100)))]))) xNil))))))) (xD (xFn 2 F_law_draw [.rf 0, .ex (xV (xC (.int 6)))]))) (yN 7))
            (xDrop (xApp 5 (xTup (xCons (xVar 6) (xCons (xOpF gIx (xFn 2 F_law_pick [.rf 0, .ex (xV (xVar 3))]) (xC (.int 0))) (xCons (xVar 7) (xCons (xP (xFn 2 F_law_draw [.rf 0, .ex (xV (xOp gIx (xVar 2) (xC (.int 0))))])) xNil)))))))))
        (xRet (xV (xTup (xCons (xVar 2) (xCons (xVar 3) (xCons (xUn gTuple (xRd 5)) xNil)))))))))))))
noncomputable def F_law_plan : VF := runF 8 [0] X_law_plan
end LK
end
section
namespace LK
open PySem L2 FL
local macro_rules | `(tactic| walk_at "vside") => `(tactic| first | assumption | omega | decide | (refine mulR ?_; constructor <;> omega) | (refine mulL ?_; constructor <;> omega) | (refine divOk ?_ ?_ <;> omega) | (refine ⟨?_, ?_, ?_⟩ <;> decide) | (refine ⟨?_, ?_⟩ <;> omega) | (simp only [List.length_append, List.length_cons, List.length_nil, List.length_map, List.length_range]; omega))
local macro_rules | `(tactic| walk_at "vs") => `(tactic| simp -implicitDefEqProofs only [e_O, e_pv, e_ls, e_qs, e_bl, e_nt, e_T, e_F, e_CT, e_var, e_rd, e_mv, e_c, e_xV, e_xD, e_xP, e_op, e_opF, e_opP, e_un, e_b, e_yes, e_and, e_or, e_not, e_if, e_andV, e_orV, e_notV, e_chain, e_nil, e_cons, e_tup, e_lst, e_lstN, e_dnew, e_no, e_pt, e_sl, e_slF, e_slP, e_slN, e_lsv, e_get, e_app,
  e_next, e_break, e_cont, e_seq, e_drop, e_dropF, e_ret, e_retN, e_asg, e_yN, e_ysNil, e_ysCons, e_yT, e_asgF, e_par, e_hd, e_aug, e_setL, e_dput, e_kS, e_kI, e_fn, e_arNil, e_arRf, e_arEx, e_resN, e_resL, e_resR, e_bkN, e_bkL, e_bkR, e_run, e_oN, e_oC, e_for, e_iL, e_iT, e_some, e_someE, e_iP, e_iK, e_iF, e_iR1, e_iR2, e_iS, e_lc, e_dc, e_yC1, e_yCm, e_sa0, e_sa, e_wi0, e_wi, e_re0, e_re, e_lockS, e_lockF, e_items, e_iEn, e_iEnP, e_yStar, e_asgS, g_rep,
  g_addI, g_addL, g_addT, g_addS, g_subI, g_mulI, g_divI, g_modI, g_powI, g_negI, g_ltI, g_ltS, g_leI, g_gtI, g_geI, g_eqI, g_eqS, g_eqB, g_neI, g_neS, g_neB, g_isN, g_notN, isN1, isN2, isN3, g_ixT, g_ixL, g_ixZ, g_lenT, g_lenL, g_lenZ, g_min, g_max, g_intB, g_intI, g_tupL, g_tupT, g_lstT, g_lstL, g_cutT, g_cutL, g_cutZ, g_dgS, g_dgI, g_getS, g_getI, g_getN, g_diS, isS_d, vo_v, vo_l, vo_q, vo_f, vw_v, vw_l, vw_q, vw_f, at0, at1, at2, at3, at4, ix0, ix1, ix2,
  refsA, List.nodup_cons, List.mem_cons, List.not_mem_nil, List.nodup_nil, not_false_eq_true, and_true, true_and, or_false, false_or, and_self, not_true_eq_false, List.length_cons, List.length_nil, List.map_cons, List.map_nil, List.replicate, List.cons_append, List.nil_append, List.set_cons_zero, List.set_cons_succ, List.getElem?_cons_zero, List.getElem?_cons_succ, List.tail_cons, Nat.reduceAdd, Nat.reduceSub, Nat.reduceLeDiff, Nat.reduceEqDiff, Int.reduceLT, Int.reduceLE, Int.reduceNeg, Int.reduceEq, decide_true, decide_false, Bool.not_true, Bool.not_false, Nat.zero_le, Option.some.injEq, reduceCtorEq, Nat.zero_add])
local macro_rules | `(tactic| walk_at "vc") => `(tactic| (repeat (refine wc ?c ?_; (case c => walk_at "vside"))))
local macro_rules | `(tactic| walk_at "vgo") => `(tactic| (walk_at "vs"; walk_at "vc"))
local macro_rules | `(tactic| walk_at "vi") => `(tactic| ((try walk_at "vgo"); rw [e_ifS]; walk_at "vgo"))

/-- a deck: three numbers -/
def DeckW (w : W) : Prop := ∃ x c z : Int, w = .l [.int x, .int c, .int z]
theorem w_draw {dk : W} {w : Int} {Q : W → List W → Prop} (hd : DeckW dk) (w0 : 0 < w) (w1 : w < 2 ^ 60)
    (q : ∀ v dk', DeckW dk' → 0 ≤ v → v < w → Q (.v (.int v)) [dk', .v (.int w)]) : WE (F_law_draw [dk, .v (.int w)]) (q := ⟨Q⟩) := by
  obtain ⟨x, c, z, rfl⟩ := hd
  unfold F_law_draw X_law_draw
  walk_at "vi"
  refine wi (fun hx => ?_) (fun hx => ?_)
  · walk_at "vgo"
    exact q _ _ ⟨_, _, _, rfl⟩ (mod_range w0).1 (mod_range w0).2
  · walk_at "vgo"
    exact q _ _ ⟨_, _, _, rfl⟩ (mod_range w0).1 (mod_range w0).2
/-- one of several, not none -/
theorem w_pick {dk : W} {s : D} {es : List D} {Q : W → List W → Prop} (hd : DeckW dk) (hs : s = .lst es ∨ s = .tup es) (ne : es ≠ []) (le : es.length ≤ 1000)
    (q : ∀ d dk', DeckW dk' → d ∈ es → Q (.v d) [dk', .v s]) : WE (F_law_pick [dk, .v s]) (q := ⟨Q⟩) := by
  have l0 : 0 < es.length := List.length_pos_iff.mpr ne
  unfold F_law_pick X_law_pick
  rcases hs with rfl | rfl
  all_goals
    walk_at "vgo"
    refine w_draw hd (by omega) (by omega) fun v dk' hdk v0 v1 => ?_
    walk_at "vgo"
    obtain ⟨d, hc, hme⟩ := at_in v0 v1
    refine W1.mk hc ?_
    walk_at "vgo"
    exact q d dk' hdk hme
theorem w_deck {cell : Int} {Q : W → List W → Prop} (q : ∀ dk, DeckW dk → Q dk [.v (.int cell)]) : WE (F_law_deck [.v (.int cell)]) (q := ⟨Q⟩) := by
  unfold F_law_deck X_law_deck
  walk_at "vgo"
  exact q _ ⟨_, _, _, rfl⟩
/-! ### texts of letters -/
theorem wordS_app (a b : List Int) : wordS a ++ wordS b = wordS (a ++ b) := by
  apply str_ext
  show ((wordS a).cps ++ (wordS b).cps).toList = _
  rw [Array.toList_append, wordS_cps, wordS_cps, wordS_cps, List.map_append]
theorem cutS_to {ws : List Int} {j : Int} (h : 0 ≤ j) : cutS (wordS ws) none (some j) = wordS (ws.take j.toNat) := by
  have e1 : (wordS ws).length = ws.length := wordS_len ws
  obtain ⟨n, rfl⟩ : ∃ n : Nat, j = n := ⟨j.toNat, by omega⟩
  apply str_ext
  unfold cutS
  rw [wordS_cps, wordS_cps, e1, HT.sIx_none, HT.sIx_nat]
  simp
theorem cutS_from {ws : List Int} {j : Int} (h : 0 ≤ j) : cutS (wordS ws) (some j) none = wordS (ws.drop j.toNat) := by
  have e1 : (wordS ws).length = ws.length := wordS_len ws
  obtain ⟨n, rfl⟩ : ∃ n : Nat, j = n := ⟨j.toNat, by omega⟩
  apply str_ext
  unfold cutS
  rw [wordS_cps, wordS_cps, e1, HT.sIx_none, HT.sIx_nat, List.toList_toArray]
  rw [List.take_of_length_le (by simp)]
  by_cases z : n ≤ ws.length
  · rw [Nat.min_eq_left z, List.map_drop]
    rfl
  · rw [Nat.min_eq_right (by omega), List.drop_of_length_le (by simp), List.drop_of_length_le (by simp; omega)]
    rfl
theorem g_cutS {z : Str} {lo hi : Option Int} {K : D → Prop} : W1 (gCut (.str z) lo hi) (q := ⟨K⟩) = WC (z.length ≤ 16777216) (K (.str (cutS z lo hi))) := ite_w1
theorem abcdefgh_is : ("abcdefgh" : Str) = wordS [0, 1, 2, 3, 4, 5, 6, 7] := by decide +kernel
theorem g_lenS {z : Str} {K : D → Prop} : W1 (gLen (.str z)) (q := ⟨K⟩) = WC (z.length ≤ 16777216) (K (.int z.length)) := ite_w1
theorem w_words {dk : W} {w : Int} {Q : W → List W → Prop} (hd : DeckW dk) (w0 : 0 ≤ w) (w1 : w ≤ 20)
    (q : ∀ (wss : List (List Int)) dk', DeckW dk' → wss.length = w.toNat → wss.Nodup → (∀ ws ∈ wss, WordOk ws) → Q (.l (wss.map fun ws => .str (wordS ws))) [dk', .v (.int w)]) : WE (F_law_words [dk, .v (.int w)]) (q := ⟨Q⟩) := by
  unfold F_law_words X_law_words
  walk_at "vgo"
  refine w_draw hd (by decide) (by decide) fun way dk1 hd1 y0 y1 => ?_
  walk_at "vgo"
  refine w_draw hd1 (by decide) (by decide) fun n0 dk2 hd2 n00 n01 => ?_
  walk_at "vgo"
  refine lc_inv (fun k acc σ => ∃ (us : List Int) (dk3 : W), acc = us.map (fun c => D.str (sgn c)) ∧ us.length = k ∧ (∀ c ∈ us, 0 ≤ c ∧ c < 26) ∧ DeckW dk3 ∧ σ = [some dk3, some (.v (.int w)), some (.v (.str abc)), some (.v (.int way)), none, none, none, none, none]) ⟨[], dk2, rfl, rfl, by simp, hd2, rfl⟩ (fun _ _ _ _ _ => trivial) ?_ ?_
  · rintro k d acc σ e ⟨us, dk3, rfl, hl, hu, hd3, rfl⟩
    walk_at "vgo"
    refine w_draw hd3 (by decide) (by decide) fun v dk4 hd4 v0 v1 => ?_
    walk_at "vgo"
    refine g_abc v0 v1 ?_
    refine ⟨us ++ [v], dk4, by rw [List.map_append]; rfl, by rw [List.length_append, hl]; rfl, fun c hc => ?_, hd4, rfl⟩
    rcases List.mem_append.mp hc with z | z
    · exact hu c z
    · rw [List.mem_singleton.mp z]
      exact ⟨v0, v1⟩
  rintro acc σ ⟨us, dk3, rfl, hl, hu, hd3, rfl⟩
  rw [List.length_map, List.length_range] at hl
  walk_at "vs"
  refine g_joinW (ws := us) (by omega) ?_
  walk_at "vi"
  refine wi (fun hw1 => ?_) (fun h9 => ?_)
  (walk_at "vgo"; refine wi (fun h9 => ?_) (fun h9 => ?_))
  · walk_at "vgo"
    rw [abcdefgh_is, wordS_app, wordS_len, wordS_len, g_cutS, wordS_len, cutS_to (by decide)]
    refine wc (by simp; omega) (wc (by simp; omega) ?_)
    have lb : ((us ++ [0, 1, 2, 3, 4, 5, 6, 7]).take (8 : Int).toNat).length = 8 := by
      rw [List.length_take, List.length_append]
      simp
    have hb : ∀ c ∈ (us ++ [0, 1, 2, 3, 4, 5, 6, 7]).take (8 : Int).toNat, 0 ≤ c ∧ c < 26 := fun c hc => by
      rcases List.mem_append.mp (List.mem_of_mem_take hc) with z | z
      · exact hu c z
      · simp only [List.mem_cons, List.not_mem_nil, or_false] at z
        omega
    obtain ⟨bs, ebs⟩ : ∃ bs, bs = (us ++ [0, 1, 2, 3, 4, 5, 6, 7]).take (8 : Int).toNat := ⟨_, rfl⟩
    rw [← ebs] at lb hb ⊢
    walk_at "vgo"
    refine lc_pure (fun _ => true) (fun d => match d with | .int k => .str (wordS (bs.take (1 + k).toNat)) | _ => .non) trivial ?_ ?_
    · intro d hd
      obtain ⟨k, hk, rfl⟩ := List.mem_map.mp hd
      walk_at "vs"
      rw [g_cutS, wordS_len, cutS_to (by omega)]
      refine wc (by omega) ?_
      exact ⟨rfl, rfl⟩
    · have key := q ((List.range w.toNat).map fun k : Nat => bs.take (1 + (k : Int)).toNat) dk3 hd3 (by rw [List.length_map, List.length_range]) (nodup_range fun a b ha hb z => by
        have z1 := congrArg List.length z
        rw [List.length_take, List.length_take] at z1
        omega) (fun ws hws => by
        obtain ⟨k, hk, rfl⟩ := List.mem_map.mp hws
        have hk' := List.mem_range.mp hk
        refine ⟨by rw [List.length_take]; omega, by rw [List.length_take]; omega, fun c hc => hb c (List.mem_of_mem_take hc)⟩)
      rw [List.map_map] at key
      rw [filter_yes, List.map_map]
      walk_at "vs"
      exact key
  all_goals
    walk_at "vgo"
    rw [g_lenS, wordS_len]
    refine wc (by omega) ?_
    walk_at "vs"
    refine w_draw hd3 (by omega) (by omega) fun a dk4 hd4 a0 a1 => ?_
    walk_at "vs"
    refine w_draw hd4 (by decide) (by decide) fun first dk5 hd5 f0 f1 => ?_
    walk_at "vgo"
    refine lc_pure (fun _ => true) (fun d => match d with | .int k => .str (wordS (us.take a.toNat ++ ((first + 3 * k) % 26 :: us.drop (a + 1).toNat))) | _ => .non) trivial ?_ ?_
    · intro d hd
      obtain ⟨k, hk, rfl⟩ := List.mem_map.mp hd
      walk_at "vs"
      rw [g_cutS, wordS_len, cutS_to (by omega)]
      refine wc (by omega) ?_
      walk_at "vgo"
      refine g_abc (mod_range (by decide)).1 (mod_range (by decide)).2 ?_
      rw [← wordS_one]
      walk_at "vs"
      rw [wordS_app, wordS_len, wordS_len]
      refine wc (by rw [List.length_take, List.length_singleton]; omega) ?_
      rw [g_cutS, wordS_len, cutS_from (by omega)]
      refine wc (by omega) ?_
      walk_at "vs"
      rw [wordS_app, wordS_len, wordS_len, List.append_assoc]
      refine wc (by rw [List.length_append, List.length_take, List.length_singleton, List.length_drop]; omega) ?_
      exact rfl
    · have key := q ((List.range w.toNat).map fun k : Nat => us.take a.toNat ++ ((first + 3 * (k : Int)) % 26 :: us.drop (a + 1).toNat)) dk5 hd5 (by rw [List.length_map, List.length_range]) (nodup_range fun x y hx hy z => by
        have z1 := List.append_cancel_left z
        injection z1 with z2 _
        omega) (fun ws hws => by
        obtain ⟨k, hk, rfl⟩ := List.mem_map.mp hws
        refine ⟨by rw [List.length_append, List.length_cons]; omega, by rw [List.length_append, List.length_cons, List.length_take, List.length_drop]; omega, fun c hc => ?_⟩
        rcases List.mem_append.mp hc with z | z
        · exact hu c (List.mem_of_mem_take z)
        · rcases List.mem_cons.mp z with y | y
          · rw [y]
            exact mod_range (by decide)
          · exact hu c (List.mem_of_mem_drop y))
      rw [List.map_map] at key
      rw [filter_yes, List.map_map]
      walk_at "vs"
      exact key
theorem w_number {dk : W} {w : Int} {Q : W → List W → Prop} (hd : DeckW dk) (w0 : 1 ≤ w) (w1 : w ≤ 1000)
    (q : ∀ v dk', DeckW dk' → 1 ≤ v → v ≤ w → Q (.v (.int v)) [dk', .v (.int w)]) : WE (F_law_number [dk, .v (.int w)]) (q := ⟨Q⟩) := by
  unfold F_law_number X_law_number
  walk_at "vs"
  refine w_draw hd (by decide) (by decide) fun u1 dk1 hd1 u10 u11 => ?_
  walk_at "vs"
  refine w_draw hd1 (by decide) (by decide) fun u2 dk2 hd2 u20 u21 => ?_
  walk_at "vs"
  refine w_draw hd2 (by decide) (by decide) fun u3 dk3 hd3 u30 u31 => ?_
  walk_at "vs"
  obtain ⟨d, hc, hm⟩ := at_in (ds := [.int (1 + u1), .int 9, .int 10, .int 99, .int 100, .int 1000, .int (1 + u2)]) u30 (by simp; omega)
  obtain ⟨p, rfl, p0⟩ : ∃ p, d = .int p ∧ 1 ≤ p := by
    simp only [List.mem_cons, List.not_mem_nil, or_false] at hm
    rcases hm with rfl | rfl | rfl | rfl | rfl | rfl | rfl
    all_goals exact ⟨_, rfl, by omega⟩
  refine W1.mk hc ?_
  walk_at "vs"
  refine q _ dk3 hd3 ?_ ?_
  all_goals
    split <;> omega
/-- (lanes, slice, keep, turn) -/
structure WaysOk (l p k t : Int) : Prop where
  l0 : 1 ≤ l
  l1 : l ≤ 4
  p0 : 1 ≤ p
  p1 : p ≤ 100
  k0 : 0 ≤ k
  k1 : k < p
  t0 : 1 ≤ t
  t1 : t ≤ 100
theorem w_ways {dk : W} {Q : W → List W → Prop} (hd : DeckW dk) (q : ∀ l p k t dk', DeckW dk' → WaysOk l p k t → Q (.v (.tup [.int l, .int p, .int k, .int t])) [dk']) : WE (F_law_ways [dk]) (q := ⟨Q⟩) := by
  unfold F_law_ways X_law_ways
  walk_at "vs"
  refine w_draw hd (by decide) (by decide) fun l dk1 hd1 l0 l1 => ?_
  walk_at "vs"
  refine w_draw hd1 (by decide) (by decide) fun u1 dk2 hd2 u10 u11 => ?_
  walk_at "vs"
  refine w_draw hd2 (by decide) (by decide) fun u2 dk3 hd3 u20 u21 => ?_
  walk_at "vs"
  obtain ⟨d, hc, hm⟩ := at_in (ds := [.int 1, .int 2, .int 3, .int 9, .int 100, .int (1 + u1)]) u20 (by simp; omega)
  obtain ⟨p, rfl, p0, p1⟩ : ∃ p, d = .int p ∧ 1 ≤ p ∧ p ≤ 100 := by
    simp only [List.mem_cons, List.not_mem_nil, or_false] at hm
    rcases hm with rfl | rfl | rfl | rfl | rfl | rfl
    all_goals exact ⟨_, rfl, by omega, by omega⟩
  refine W1.mk hc ?_
  walk_at "vs"
  refine w_draw hd3 (by omega) (by omega) fun u3 dk4 hd4 u30 u31 => ?_
  walk_at "vs"
  refine w_draw hd4 (by decide) (by decide) fun u4 dk5 hd5 u40 u41 => ?_
  walk_at "vs"
  obtain ⟨d, hc, hm⟩ := at_in (ds := [.int 0, .int (if p - 1 < 1 then p - 1 else 1), .int (p - 1), .int u3]) u40 (by simp; omega)
  obtain ⟨k, rfl, k0, k1⟩ : ∃ k, d = .int k ∧ 0 ≤ k ∧ k < p := by
    simp only [List.mem_cons, List.not_mem_nil, or_false] at hm
    rcases hm with rfl | rfl | rfl | rfl
    · exact ⟨_, rfl, by omega, by omega⟩
    · exact ⟨_, rfl, by split <;> omega, by split <;> omega⟩
    all_goals exact ⟨_, rfl, by omega, by omega⟩
  refine W1.mk hc ?_
  walk_at "vs"
  refine w_draw hd5 (by decide) (by decide) fun u5 dk6 hd6 u50 u51 => ?_
  walk_at "vs"
  refine w_draw hd6 (by decide) (by decide) fun u6 dk7 hd7 u60 u61 => ?_
  walk_at "vs"
  obtain ⟨d, hc, hm⟩ := at_in (ds := [.int 1, .int 2, .int 5, .int 100, .int (1 + u5)]) u60 (by simp; omega)
  obtain ⟨t, rfl, t0, t1⟩ : ∃ k, d = .int k ∧ 1 ≤ k ∧ k ≤ 100 := by
    simp only [List.mem_cons, List.not_mem_nil, or_false] at hm
    rcases hm with rfl | rfl | rfl | rfl | rfl
    all_goals exact ⟨_, rfl, by omega, by omega⟩
  refine W1.mk hc ?_
  walk_at "vs"
  exact q _ _ _ _ _ hd7 ⟨by omega, by omega, p0, p1, k0, k1, t0, t1⟩
end LK
end
section
namespace LK
open PySem L2 FL
local macro_rules | `(tactic| walk_at "vside") => `(tactic| first | assumption | omega | decide | (refine mulR ?_; constructor <;> omega) | (refine mulL ?_; constructor <;> omega) | (refine divOk ?_ ?_ <;> omega) | (refine ⟨?_, ?_, ?_⟩ <;> decide) | (refine ⟨?_, ?_⟩ <;> omega) | (simp only [List.length_append, List.length_cons, List.length_nil, List.length_map, List.length_range]; omega))
local macro_rules | `(tactic| walk_at "vs") => `(tactic| simp -implicitDefEqProofs only [e_O, e_pv, e_ls, e_qs, e_bl, e_nt, e_T, e_F, e_CT, e_var, e_rd, e_mv, e_c, e_xV, e_xD, e_xP, e_op, e_opF, e_opP, e_un, e_b, e_yes, e_and, e_or, e_not, e_if, e_andV, e_orV, e_notV, e_chain, e_nil, e_cons, e_tup, e_lst, e_lstN, e_dnew, e_no, e_pt, e_sl, e_slF, e_slP, e_slN, e_lsv, e_get, e_app,
  e_next, e_break, e_cont, e_seq, e_drop, e_dropF, e_ret, e_retN, e_asg, e_yN, e_ysNil, e_ysCons, e_yT, e_asgF, e_par, e_hd, e_aug, e_setL, e_dput, e_kS, e_kI, e_fn, e_arNil, e_arRf, e_arEx, e_resN, e_resL, e_resR, e_bkN, e_bkL, e_bkR, e_run, e_oN, e_oC, e_for, e_iL, e_iT, e_some, e_someE, e_iP, e_iK, e_iF, e_iR1, e_iR2, e_iS, e_lc, e_dc, e_yC1, e_yCm, e_sa0, e_sa, e_wi0, e_wi, e_re0, e_re, e_lockS, e_lockF, e_items, e_iEn, e_iEnP, e_yStar, e_asgS, g_rep,
  g_addI, g_addL, g_addT, g_addS, g_subI, g_mulI, g_divI, g_modI, g_powI, g_negI, g_ltI, g_ltS, g_leI, g_gtI, g_geI, g_eqI, g_eqS, g_eqB, g_neI, g_neS, g_neB, g_isN, g_notN, isN1, isN2, isN3, g_ixT, g_ixL, g_ixZ, g_lenT, g_lenL, g_lenZ, g_min, g_max, g_intB, g_intI, g_tupL, g_tupT, g_lstT, g_lstL, g_cutT, g_cutL, g_cutZ, g_dgS, g_dgI, g_getS, g_getI, g_getN, g_diS, isS_d, vo_v, vo_l, vo_q, vo_f, vw_v, vw_l, vw_q, vw_f, at0, at1, at2, at3, at4, ix0, ix1, ix2,
  refsA, List.nodup_cons, List.mem_cons, List.not_mem_nil, List.nodup_nil, not_false_eq_true, and_true, true_and, or_false, false_or, and_self, not_true_eq_false, List.length_cons, List.length_nil, List.map_cons, List.map_nil, List.replicate, List.cons_append, List.nil_append, List.set_cons_zero, List.set_cons_succ, List.getElem?_cons_zero, List.getElem?_cons_succ, List.tail_cons, Nat.reduceAdd, Nat.reduceSub, Nat.reduceLeDiff, Nat.reduceEqDiff, Int.reduceLT, Int.reduceLE, Int.reduceNeg, Int.reduceEq, decide_true, decide_false, Bool.not_true, Bool.not_false, Nat.zero_le, Option.some.injEq, reduceCtorEq, Nat.zero_add])
local macro_rules | `(tactic| walk_at "vc") => `(tactic| (repeat (refine wc ?c ?_; (case c => walk_at "vside"))))
local macro_rules | `(tactic| walk_at "vgo") => `(tactic| (walk_at "vs"; walk_at "vc"))
local macro_rules | `(tactic| walk_at "vi") => `(tactic| ((try walk_at "vgo"); rw [e_ifS]; walk_at "vgo"))

/-- a hand -/
structure Hd where
  nm : Str
  gr : Str
  wt : Int
  ln : Int
def Hd.d (x : Hd) : D := .tup [.str x.nm, .str x.gr, .int x.wt, .int x.ln]
structure HdOk (gn : List Str) (lanes : Int) (x : Hd) : Prop where
  nm : NameS x.nm
  gr : x.gr ∈ gn
  w0 : 1 ≤ x.wt
  w1 : x.wt ≤ 100
  l0 : 0 ≤ x.ln
  l1 : x.ln < lanes
/-- a group -/
structure Gr where
  nm : Str
  ab : Option Str
  q : Int
  p : Int
  b : Int
def abD : Option Str → D
  | none => .non
  | some a => .str a
def Gr.d (x : Gr) : D := .tup [.str x.nm, abD x.ab, .int x.q, .int x.p, .int x.b]
structure GrOk (x : Gr) : Prop where
  nm : NameS x.nm
  q0 : 1 ≤ x.q
  q1 : x.q ≤ 1000
  p0 : 1 ≤ x.p
  p1 : x.p ≤ 1000
  b0 : 0 ≤ x.b
  b1 : x.b ≤ 1000
/-- how deep each stands: the one above stands less deep -/
structure GrsOk (gs : List Gr) (dep : Str → Nat) : Prop where
  ok : ∀ x ∈ gs, GrOk x
  nd : (gs.map Gr.nm).Nodup
  d4 : ∀ x ∈ gs, 1 ≤ dep x.nm ∧ dep x.nm ≤ 4
  ab : ∀ x ∈ gs, ∀ a, x.ab = some a → a ∈ gs.map Gr.nm ∧ dep x.nm = dep a + 1
  no : ∀ x ∈ gs, x.ab = none → dep x.nm = 1
structure GdOk (gd : List (Gr × Nat)) : Prop where
  ok : ∀ x ∈ gd, GrOk x.1
  d4 : ∀ x ∈ gd, 1 ≤ x.2 ∧ x.2 ≤ 4
  ab : ∀ x ∈ gd, ∀ a, x.1.ab = some a → ∃ y ∈ gd, y.1.nm = a ∧ x.2 = y.2 + 1
  no : ∀ x ∈ gd, x.1.ab = none → x.2 = 1
def deepQ (gd : List (Gr × Nat)) : Qs := gd.map fun x => (Sum.inr x.1.nm, .int (x.2 : Nat))
def pdep (gd : List (Gr × Nat)) : D → Bool
  | .str s => match valD (deepQ gd) (Sum.inr s) with
    | some (.int n) => decide (n < 4)
    | _ => false
  | _ => false
theorem deep_at {gd : List (Gr × Nat)} {s : Str} (h : ∃ y ∈ gd, y.1.nm = s) : ∃ n : Nat, valD (deepQ gd) (Sum.inr s) = some (.int n) := by
  obtain ⟨y, hy, rfl⟩ := h
  obtain ⟨d, hd⟩ := valD_some (qs := deepQ gd) (k := Sum.inr y.1.nm) (List.mem_map.mpr ⟨_, List.mem_map.mpr ⟨y, hy, rfl⟩, rfl⟩)
  obtain ⟨x, hx, e⟩ := List.mem_map.mp (valD_mem hd)
  injection e with _ e2
  exact ⟨x.2, by rw [hd, ← e2]⟩
theorem deep_of {gd : List (Gr × Nat)} {s : Str} (h : pdep gd (.str s) = true) : ∃ z ∈ gd, z.1.nm = s ∧ valD (deepQ gd) (Sum.inr s) = some (.int (z.2 : Nat)) ∧ z.2 < 4 := by
  cases e : valD (deepQ gd) (Sum.inr s) with
  | none =>
    unfold pdep at h
    simp [e] at h
  | some d =>
    obtain ⟨x, hx, e1⟩ := List.mem_map.mp (valD_mem e)
    injection e1 with e2 e3
    injection e2 with e4
    subst e3
    refine ⟨x, hx, e4, rfl, ?_⟩
    unfold pdep at h
    simp only [e] at h
    have := of_decide_eq_true h
    omega
theorem GdOk.snoc {gd : List (Gr × Nat)} {g : Gr} {n : Nat} (h : GdOk gd) (hg : GrOk g) (hn : 1 ≤ n ∧ n ≤ 4) (ha : ∀ a, g.ab = some a → ∃ y ∈ gd, y.1.nm = a ∧ n = y.2 + 1) (h0 : g.ab = none → n = 1) : GdOk (gd ++ [(g, n)]) := by
  refine ⟨fun x hx => ?_, fun x hx => ?_, fun x hx a e => ?_, fun x hx e => ?_⟩
  · rcases List.mem_append.mp hx with z | z
    · exact h.ok x z
    · rw [List.mem_singleton.mp z]
      exact hg
  · rcases List.mem_append.mp hx with z | z
    · exact h.d4 x z
    · rw [List.mem_singleton.mp z]
      exact hn
  · rcases List.mem_append.mp hx with z | z
    · obtain ⟨y, hy, e1, e2⟩ := h.ab x z a e
      exact ⟨y, List.mem_append_left _ hy, e1, e2⟩
    · rw [List.mem_singleton.mp z] at e ⊢
      obtain ⟨y, hy, e1, e2⟩ := ha a e
      exact ⟨y, List.mem_append_left _ hy, e1, e2⟩
  · rcases List.mem_append.mp hx with z | z
    · exact h.no x z e
    · rw [List.mem_singleton.mp z] at e ⊢
      exact h0 e
theorem perm_lift {α β : Type} {f : α → β} {xs ys : List β} (p : xs.Perm ys) : ∀ l : List α, ys = l.map f → ∃ l' : List α, l'.Perm l ∧ xs = l'.map f := by
  induction p with
  | nil =>
    intro l e
    cases l with
    | nil => exact ⟨[], .refl _, rfl⟩
    | cons a t => cases e
  | cons x p ih =>
    intro l e
    cases l with
    | nil => cases e
    | cons a t =>
      injection e with e1 e2
      obtain ⟨t', pt, e3⟩ := ih t e2
      exact ⟨a :: t', pt.cons a, by rw [List.map_cons, e1, e3]⟩
  | swap x y l0 =>
    intro l e
    cases l with
    | nil => cases e
    | cons a t =>
      cases t with
      | nil =>
        injection e with e1 e2
        cases e2
      | cons b t =>
        injection e with e1 e2
        injection e2 with e3 e4
        exact ⟨b :: a :: t, .swap .., by rw [List.map_cons, List.map_cons, e1, e3, e4]⟩
  | trans p q ih1 ih2 =>
    intro l e
    obtain ⟨l1, p1, e1⟩ := ih2 l e
    obtain ⟨l2, p2, e2⟩ := ih1 l1 e1
    exact ⟨l2, p2.trans p1, e2⟩
/-- how deep, by the name -/
def depOf (gd : List (Gr × Nat)) (s : Str) : Nat := ((gd.find? fun x => decide (x.1.nm = s)).map (·.2)).getD 0
theorem depOf_at {gd : List (Gr × Nat)} (nd : (gd.map fun x => x.1.nm).Nodup) {x : Gr × Nat} (hx : x ∈ gd) : depOf gd x.1.nm = x.2 := by
  unfold depOf
  induction gd with
  | nil => cases hx
  | cons y gd ih =>
    rw [List.map_cons, List.nodup_cons] at nd
    rw [List.find?_cons]
    rcases List.mem_cons.mp hx with z | z
    · subst z
      rw [decide_eq_true rfl]
      rfl
    · have hne : ¬ y.1.nm = x.1.nm := fun e => nd.1 (by rw [e]; exact List.mem_map.mpr ⟨x, z, rfl⟩)
      rw [decide_eq_false hne]
      exact ih nd.2 z
/-- a plan -/
structure Pl where
  l : Int
  p : Int
  k : Int
  t : Int
  gs : List Gr
  hs : List Hd
def Pl.wd (P : Pl) : D := .tup [.int P.l, .int P.p, .int P.k, .int P.t]
def Pl.d (P : Pl) : D := .tup [P.wd, .tup (P.gs.map Gr.d), .tup (P.hs.map Hd.d)]
structure PlOk (P : Pl) (dep : Str → Nat) : Prop where
  ways : WaysOk P.l P.p P.k P.t
  g0 : 1 ≤ P.gs.length
  g1 : P.gs.length ≤ 8
  gs : (P.gs.map Gr.nm).Pairwise ltS
  gr : GrsOk P.gs dep
  h1 : P.hs.length ≤ 12
  hs : (P.hs.map Hd.nm).Pairwise ltS
  hd : ∀ x ∈ P.hs, HdOk (P.gs.map Gr.nm) P.l x
theorem mergeQ_app : ∀ (l qs : Qs), ((qs ++ l).map (·.1)).Nodup → mergeQ qs l = qs ++ l
  | [], qs, _ => (List.append_nil qs).symm
  | a :: l, qs, nd => by
    show mergeQ (putQ qs a.1 a.2) l = _
    have e : qs ++ a :: l = (qs ++ [(a.1, a.2)]) ++ l := by
      rw [List.append_assoc]
      rfl
    have n1 : valD qs a.1 = none := valD_none fun z => by
      rw [List.map_append, List.nodup_append] at nd
      exact nd.2.2 _ z _ (List.mem_cons_self ..) rfl
    rw [putQ_new n1, e]
    exact mergeQ_app l _ (by rw [← e]; exact nd)
theorem mergeQ_nodup (l : Qs) (nd : (l.map (·.1)).Nodup) : mergeQ [] l = l := mergeQ_app l [] nd
theorem valD_at {α : Type} {l : List α} {k : α → Str} {f : α → D} (nd : (l.map k).Nodup) {x : α} (hx : x ∈ l) : valD (l.map fun g => (Sum.inr (k g), f g)) (Sum.inr (k x)) = some (f x) := by
  induction l with
  | nil => cases hx
  | cons y l ih =>
    rw [List.map_cons, valD_cons]
    rw [List.map_cons, List.nodup_cons] at nd
    rcases List.mem_cons.mp hx with z | z
    · subst z
      rw [if_pos rfl]
    · rw [if_neg fun e => nd.1 (by injection e with e; rw [e]; exact List.mem_map.mpr ⟨x, z, rfl⟩)]
      exact ih nd.2 z
theorem keys_nodup {α : Type} {l : List α} {k : α → Str} {f : α → D} (nd : (l.map k).Nodup) : ((l.map fun g => ((Sum.inr (k g) : Key), f g)).map (·.1)).Nodup := by
  rw [List.map_map]
  have e : (l.map ((fun x : Key × D => x.1) ∘ fun g => ((Sum.inr (k g) : Key), f g))) = (l.map k).map Sum.inr := by
    rw [List.map_map]
    rfl
  rw [e]
  refine List.pairwise_map.mpr (nd.imp ?_)
  intro a b h z
  injection z with z
  exact h z
/-! ### lines -/
def abv (gs : List Gr) (s : Str) : Option Str := (gs.find? fun g => decide (g.nm = s)).bind Gr.ab
theorem abv_at {gs : List Gr} (nd : (gs.map Gr.nm).Nodup) {x : Gr} (hx : x ∈ gs) : abv gs x.nm = x.ab := by
  unfold abv
  induction gs with
  | nil => cases hx
  | cons y gs ih =>
    rw [List.map_cons, List.nodup_cons] at nd
    rw [List.find?_cons]
    rcases List.mem_cons.mp hx with z | z
    · subst z
      rw [decide_eq_true rfl]
      rfl
    · rw [decide_eq_false fun e => nd.1 (by rw [e]; exact List.mem_map.mpr ⟨x, z, rfl⟩)]
      exact ih nd.2 z
def ln (gs : List Gr) : Nat → Str → List Str
  | 0, _ => []
  | n + 1, s => s :: (match abv gs s with
    | some a => ln gs n a
    | none => [])
def line (gs : List Gr) (dep : Str → Nat) (s : Str) : List Str := ln gs (dep s) s
section
variable {gs : List Gr} {dep : Str → Nat}
theorem line_some (ok : GrsOk gs dep) {x : Gr} {a : Str} (hx : x ∈ gs) (e : x.ab = some a) : line gs dep x.nm = x.nm :: line gs dep a := by
  have := (ok.ab x hx a e).2
  unfold line
  rw [this]
  show x.nm :: (match abv gs x.nm with | some b => ln gs (dep a) b | none => []) = _
  rw [abv_at ok.nd hx, e]
theorem line_none (ok : GrsOk gs dep) {x : Gr} (hx : x ∈ gs) (e : x.ab = none) : line gs dep x.nm = [x.nm] := by
  have := ok.no x hx e
  unfold line
  rw [this]
  show x.nm :: (match abv gs x.nm with | some a => ln gs 0 a | none => []) = _
  rw [abv_at ok.nd hx, e]
theorem name_of {s : Str} (h : s ∈ gs.map Gr.nm) : ∃ x ∈ gs, x.nm = s := by
  obtain ⟨x, hx, e⟩ := List.mem_map.mp h
  exact ⟨x, hx, e⟩
/-- by how deep it stands -/
theorem dep_ind (ok : GrsOk gs dep) {P : Str → Prop} (h0 : ∀ x ∈ gs, x.ab = none → P x.nm) (h1 : ∀ x ∈ gs, ∀ a, x.ab = some a → a ∈ gs.map Gr.nm → P a → P x.nm) : ∀ s ∈ gs.map Gr.nm, P s := by
  have key : ∀ n s, s ∈ gs.map Gr.nm → dep s = n → P s := by
    intro n
    induction n using Nat.strongRecOn with
    | ind n ih =>
      intro s hs hn
      obtain ⟨x, hx, rfl⟩ := name_of hs
      cases e : x.ab with
      | none => exact h0 x hx e
      | some a =>
        obtain ⟨ha, hd⟩ := ok.ab x hx a e
        exact h1 x hx a e ha (ih (dep a) (by omega) a ha rfl)
  exact fun s hs => key _ s hs rfl
theorem line_names (ok : GrsOk gs dep) : ∀ s ∈ gs.map Gr.nm, ∀ t ∈ line gs dep s, t ∈ gs.map Gr.nm := by
  refine dep_ind ok (fun x hx e t ht => ?_) (fun x hx a e ha ih t ht => ?_)
  · rw [line_none ok hx e] at ht
    rw [List.mem_singleton.mp ht]
    exact List.mem_map.mpr ⟨x, hx, rfl⟩
  · rw [line_some ok hx e] at ht
    rcases List.mem_cons.mp ht with z | z
    · rw [z]
      exact List.mem_map.mpr ⟨x, hx, rfl⟩
    · exact ih t z
theorem line_len (ok : GrsOk gs dep) : ∀ s ∈ gs.map Gr.nm, (line gs dep s).length = dep s := by
  refine dep_ind ok (fun x hx e => ?_) (fun x hx a e ha ih => ?_)
  · rw [line_none ok hx e, ok.no x hx e]
    rfl
  · rw [line_some ok hx e, (ok.ab x hx a e).2, List.length_cons, ih]
theorem line_sub (ok : GrsOk gs dep) : ∀ s ∈ gs.map Gr.nm, ∀ t ∈ line gs dep s, ∀ u ∈ line gs dep t, u ∈ line gs dep s := by
  refine dep_ind ok (fun x hx e t ht u hu => ?_) (fun x hx a e ha ih t ht u hu => ?_)
  · rw [line_none ok hx e] at ht
    rw [List.mem_singleton.mp ht] at hu
    exact hu
  · rw [line_some ok hx e] at ht
    rcases List.mem_cons.mp ht with z | z
    · rw [z] at hu
      exact hu
    · rw [line_some ok hx e]
      exact List.mem_cons_of_mem _ (ih t z u hu)
theorem dep4 (ok : GrsOk gs dep) {s : Str} (h : s ∈ gs.map Gr.nm) : 1 ≤ dep s ∧ dep s ≤ 4 := by
  obtain ⟨x, hx, rfl⟩ := name_of h
  exact ok.d4 x hx
theorem atI_last {α : Type} {l : List α} {a : α} : atI (l ++ [a]) (-1) = some a := by
  unfold atI ixN
  rw [if_neg (by decide), if_pos (by rw [List.length_append]; simp; omega)]
  show (l ++ [a])[((-1 : Int) + ((l ++ [a]).length : Nat)).toNat]? = _
  have e : ((-1 : Int) + ((l ++ [a]).length : Nat)).toNat = l.length := by
    rw [List.length_append]
    simp
    omega
  rw [e, List.getElem?_append_right (Nat.le_refl _), Nat.sub_self]
  rfl
end
end LK
end
section
namespace LK
open PySem L2 FL
local macro_rules | `(tactic| walk_at "vside") => `(tactic| first | assumption | omega | decide | (refine mulR ?_; constructor <;> omega) | (refine mulL ?_; constructor <;> omega) | (refine divOk ?_ ?_ <;> omega) | (refine ⟨?_, ?_, ?_⟩ <;> decide) | (refine ⟨?_, ?_⟩ <;> omega) | (simp only [List.length_append, List.length_cons, List.length_nil, List.length_map, List.length_range]; omega))
local macro_rules | `(tactic| walk_at "vs") => `(tactic| simp -implicitDefEqProofs only [e_listN, e_popAt, e_get1, e_O, e_pv, e_ls, e_qs, e_bl, e_nt, e_T, e_F, e_CT, e_var, e_rd, e_mv, e_c, e_xV, e_xD, e_xP, e_op, e_opF, e_opP, e_un, e_b, e_yes, e_and, e_or, e_not, e_if, e_andV, e_orV, e_notV, e_chain, e_nil, e_cons, e_tup, e_lst, e_lstN, e_dnew, e_no, e_pt, e_sl, e_slF, e_slP, e_slN, e_lsv, e_get, e_app,
  e_next, e_break, e_cont, e_seq, e_drop, e_dropF, e_ret, e_retN, e_asg, e_yN, e_ysNil, e_ysCons, e_yT, e_asgF, e_par, e_hd, e_aug, e_setL, e_dput, e_kS, e_kI, e_fn, e_arNil, e_arRf, e_arEx, e_resN, e_resL, e_resR, e_bkN, e_bkL, e_bkR, e_run, e_oN, e_oC, e_for, e_iL, e_iT, e_some, e_someE, e_iP, e_iK, e_iF, e_iR1, e_iR2, e_iS, e_lc, e_dc, e_yC1, e_yCm, e_sa0, e_sa, e_wi0, e_wi, e_re0, e_re, e_lockS, e_lockF, e_items, e_iEn, e_iEnP, e_yStar, e_asgS, g_rep,
  g_addI, g_addL, g_addT, g_addS, g_subI, g_mulI, g_divI, g_modI, g_powI, g_negI, g_ltI, g_ltS, g_leI, g_gtI, g_geI, g_eqI, g_eqS, g_eqB, g_neI, g_neS, g_neB, g_isN, g_notN, isN1, isN2, isN3, g_ixT, g_ixL, g_ixZ, g_lenT, g_lenL, g_lenZ, g_min, g_max, g_intB, g_intI, g_tupL, g_tupT, g_lstT, g_lstL, g_cutT, g_cutL, g_cutZ, g_dgS, g_dgI, g_getS, g_getI, g_getN, g_diS, isS_d, vo_v, vo_l, vo_q, vo_f, vw_v, vw_l, vw_q, vw_f, at0, at1, at2, at3, at4, ix0, ix1, ix2,
  refsA, List.nodup_cons, List.mem_cons, List.not_mem_nil, List.nodup_nil, not_false_eq_true, and_true, true_and, or_false, false_or, and_self, not_true_eq_false, List.length_cons, List.length_nil, List.map_cons, List.map_nil, List.replicate, List.cons_append, List.nil_append, List.set_cons_zero, List.set_cons_succ, List.getElem?_cons_zero, List.getElem?_cons_succ, List.tail_cons, Nat.reduceAdd, Nat.reduceSub, Nat.reduceLeDiff, Nat.reduceEqDiff, Int.reduceLT, Int.reduceLE, Int.reduceNeg, Int.reduceEq, decide_true, decide_false, Bool.not_true, Bool.not_false, Nat.zero_le, Option.some.injEq, reduceCtorEq, Nat.zero_add])
local macro_rules | `(tactic| walk_at "vc") => `(tactic| (repeat (refine wc ?c ?_; (case c => walk_at "vside"))))
local macro_rules | `(tactic| walk_at "vgo") => `(tactic| (walk_at "vs"; walk_at "vc"))
local macro_rules | `(tactic| walk_at "vi") => `(tactic| ((try walk_at "vgo"); rw [e_ifS]; walk_at "vgo"))

theorem pop_perm {α : Type} : ∀ {l : List α} {k : Nat} {y : α}, l[k]? = some y → (y :: l.eraseIdx k).Perm l
  | a :: l, 0, y, e => by
    cases e
    exact .refl _
  | a :: l, k + 1, y, e => (List.Perm.swap a y _).trans ((pop_perm (l := l) (k := k) e).cons a)
theorem erase_map {α β : Type} {f : α → β} : ∀ {l : List α} {k : Nat}, (l.map f).eraseIdx k = (l.eraseIdx k).map f
  | [], _ => rfl
  | a :: l, 0 => rfl
  | a :: l, k + 1 => by
    show f a :: (l.map f).eraseIdx k = f a :: (l.eraseIdx k).map f
    rw [erase_map]
theorem abD_inj : ∀ {a b : Option Str}, abD a = abD b → a = b
  | none, none, _ => rfl
  | none, some _, e => nomatch e
  | some _, none, e => nomatch e
  | some _, some _, e => by
    injection e with e
    rw [e]
theorem w_words2 {dk : W} {w : Int} {Q : W → List W → Prop} (hd : DeckW dk) (w0 : 0 ≤ w) (w1 : w ≤ 20)
    (q : ∀ (wl : W) (ns : List Str) dk', wl = .l (ns.map D.str) → DeckW dk' → ns.length = w.toNat → ns.Nodup → (∀ t ∈ ns, NameS t) → Q wl [dk', .v (.int w)]) : WE (F_law_words [dk, .v (.int w)]) (q := ⟨Q⟩) := by
  refine w_words hd w0 w1 fun wss dk' hd' hl nd ok => ?_
  refine q _ (wss.map wordS) dk' ?_ hd' ?_ (words_nodup nd ok) ?_
  · rw [List.map_map]
    rfl
  · rw [List.length_map, hl]
  · intro t ht
    obtain ⟨ws, hws, rfl⟩ := List.mem_map.mp ht
    exact (ok ws hws).name
theorem w_groups {dk : W} {big : Bool} {Q : W → List W → Prop} (hd : DeckW dk)
    (q : ∀ (gs : List Gr) (dep : Str → Nat) dk', DeckW dk' → 1 ≤ gs.length → gs.length ≤ 8 → (gs.map Gr.nm).Pairwise ltS → GrsOk gs dep → Q (.v (.tup (gs.map Gr.d))) [dk', .v (.int (if big then 1 else 0))]) : WE (F_law_groups [dk, .v (.int (if big then 1 else 0))]) (q := ⟨Q⟩) := by
  unfold F_law_groups X_law_groups
  walk_at "vs"
  refine w_draw hd (by decide) (by decide) fun n0 dk1 hd1 n00 n01 => ?_
  walk_at "vs"
  have e1 : ∀ (x : Int) (b : Bool), atI [D.int x, D.int 8] (if b then 1 else 0) = some (.int (if b then 8 else x)) := fun x b => by cases b <;> rfl
  rw [e1]
  walk_at "vs"
  obtain ⟨w, ew⟩ : ∃ w, w = (if big then (8 : Int) else 1 + n0) := ⟨_, rfl⟩
  have w0 : 1 ≤ w ∧ w ≤ 8 := by
    rw [ew]
    cases big <;> simp <;> omega
  rw [← ew]
  refine w_words2 hd1 (by omega) (by omega) fun wl ns dk2 hwl hd2 nl ndw nok => ?_
  rw [hwl]
  walk_at "vs"
  rw [show sqv [] (D.lst (ns.map D.str)) = some (true, ns.map D.str) from rfl]
  walk_at "vs"
  rw [List.length_map, show ((ns.length : Nat) : Int) = w by omega]
  refine wc (by omega) (wc (by simp; omega) ?_)
  refine lc_inv (fun k acc σ => ∃ (os ls : List Str) (dk3 : W), acc = os.map D.str ∧ os.length = k ∧ (os ++ ls).Perm ns ∧ DeckW dk3 ∧ σ = [some dk3, some (W.v (D.int (if big = true then 1 else 0))), some (W.l (List.map D.str ns)), some (W.l (List.map D.str ls)), none, none, none, none, none, none, none, none, none, none])
    ⟨[], ns, dk2, rfl, rfl, .refl _, hd2, rfl⟩ (fun _ _ _ _ _ => trivial) ?_ ?_
  · rintro k d acc σ e ⟨os, ls, dk3, rfl, hol, hp, hd3, rfl⟩
    have hk := range_lt e
    have hl := hp.length_eq
    rw [List.length_append] at hl
    walk_at "vs"
    refine w_draw hd3 (by rw [List.length_map]; omega) (by rw [List.length_map]; omega) fun v dk4 hd4 v0 v1 => ?_
    rw [List.length_map] at v1
    walk_at "vs"
    refine wc (by omega) ?_
    rw [List.length_map, ix_in v0 v1]
    have hv : v.toNat < ls.length := by omega
    walk_at "vs"
    rw [List.getElem?_map, List.getElem?_eq_getElem hv, erase_map]
    refine ⟨os ++ [ls[v.toNat]], ls.eraseIdx v.toNat, dk4, by rw [List.map_append]; rfl, by rw [List.length_append, hol]; rfl, ?_, hd4, rfl⟩
    rw [List.append_assoc]
    exact ((pop_perm (List.getElem?_eq_getElem hv)).append_left os).trans hp
  rintro acc σ ⟨os, ls, dk3, rfl, hol, hp, hd3, rfl⟩
  rw [List.length_map, List.length_range] at hol
  have hol' : os.length = ns.length := by omega
  have hls : ls = [] := List.eq_nil_of_length_eq_zero (by
    have := hp.length_eq
    rw [List.length_append] at this
    omega)
  subst hls
  rw [List.append_nil] at hp
  have ndo : os.Nodup := hp.nodup_iff.mpr ndw
  have oko : ∀ t ∈ os, NameS t := fun t ht => nok t (hp.subset ht)
  walk_at "vs"
  refine for_inv (fun k σ => ∃ (gd : List (Gr × Nat)) (aq : Qs) (dk4 : W) (z7 z8 z9 : Option W), σ = [some dk4, some (.v (.int (if big = true then 1 else 0))), some (.l (ns.map D.str)), some (.l []), some (.l (os.map D.str)), some (.q (deepQ gd)), some (.q aq), z7, z8, z9, none, none, none, none] ∧
      (gd.map fun x => x.1.nm) = os.take k ∧ GdOk gd ∧ aq.length ≤ 2 * k ∧ (∀ x ∈ gd, valD aq (Sum.inr x.1.nm) = some (abD x.1.ab)) ∧ DeckW dk4)
    ⟨[], [], dk3, none, none, none, rfl, rfl, ⟨by simp, by simp, by simp, by simp⟩, by simp, by simp, hd3⟩ (fun _ _ _ h => by obtain ⟨gd, aq, dk4, z7, z8, z9, rfl, _⟩ := h; rfl) ?_ ?_
  · rintro k d σ e ⟨gd, aq, dk4, z7, z8, z9, rfl, hn, hok, hal, hav, hd4⟩
    obtain ⟨x0, ex0, rfl⟩ := enum_at e
    have hk : k < os.length := by
      have := (List.getElem?_eq_some_iff.mp ex0).1
      rw [List.length_map] at this
      exact this
    have ek : os[k]? = some os[k] := List.getElem?_eq_getElem hk
    rw [List.getElem?_map, ek] at ex0
    cases ex0
    obtain ⟨x, ex⟩ : ∃ x, x = os[k] := ⟨_, rfl⟩
    have okx : NameS x := by
      rw [ex]
      exact oko _ (List.getElem_mem hk)
    show W1 (yT 2 _ (.tup [.int k, .str os[k]]) _) (q := _)
    rw [← ex] at ek ⊢
    have gl : gd.length = k := by
      have := congrArg List.length hn
      rw [List.length_map, List.length_take] at this
      omega
    have xnew : ∀ y ∈ gd, y.1.nm ≠ x := fun y hy z => by
      have h1 : x ∈ os.take k := by
        rw [← hn, ← z]
        exact List.mem_map.mpr ⟨y, hy, rfl⟩
      have h2 : x ∈ os.drop k := List.mem_of_getElem? (i := 0) (by rw [List.getElem?_drop]; exact ek)
      have := ndo
      rw [← List.take_append_drop k os] at this
      exact (List.nodup_append.mp this).2.2 x h1 x h2 rfl
    have nonew : valD (deepQ gd) (Sum.inr x) = none := valD_none fun z => by
      obtain ⟨p, hp, e1⟩ := List.mem_map.mp z
      obtain ⟨y, hy, rfl⟩ := List.mem_map.mp hp
      injection e1 with e2
      exact xnew y hy e2
    have dl : (deepQ gd).length < 16777216 := by
      unfold deepQ
      rw [List.length_map]
      omega
    walk_at "vs"
    rw [cut_to (by omega), ← List.map_take, show ((k : Nat) : Int).toNat = k from rfl, ← hn]
    refine wc (by rw [List.length_map, List.length_map]; omega) ?_
    refine lc_pure (pdep gd) (fun d => d) trivial ?_ ?_
    · intro d hd
      obtain ⟨p, hp, rfl⟩ := List.mem_map.mp hd
      obtain ⟨y, hy, rfl⟩ := List.mem_map.mp hp
      obtain ⟨n, hv⟩ := deep_at (gd := gd) (s := y.1.nm) ⟨y, hy, rfl⟩
      walk_at "vs"
      refine W1.mk hv ?_
      walk_at "vs"
      have ep : pdep gd (.str y.1.nm) = decide ((n : Int) < 4) := by
        show (match valD (deepQ gd) (Sum.inr y.1.nm) with | some (.int n) => decide (n < 4) | _ => false) = _
        rw [hv]
      refine ⟨ep.symm, ?_⟩
      refine wi (fun _ => ?_) (fun _ => ?_)
      · walk_at "vs"
      · walk_at "vs"
    · have esome : (((gd.map fun x => x.1.nm).map D.str).filter (pdep gd)).map (fun d => d) = ((gd.filter fun x => pdep gd (.str x.1.nm)).map fun x => x.1.nm).map D.str := by
        rw [List.map_id', List.map_map, List.filter_map, List.map_map]
        rfl
      rw [esome]
      obtain ⟨ss, ess⟩ : ∃ ss, ss = (gd.filter fun x => pdep gd (.str x.1.nm)).map fun x => x.1.nm := ⟨_, rfl⟩
      rw [← ess]
      have lss : ss.length ≤ 8 := by
        rw [ess, List.length_map]
        have := List.length_filter_le (fun x => pdep gd (.str x.1.nm)) gd
        omega
      have oks : ∀ s ∈ ss, NameS s := fun s hs => by
        rw [ess] at hs
        obtain ⟨y, hy, rfl⟩ := List.mem_map.mp hs
        exact (hok.ok y (List.mem_filter.mp hy).1).nm
      walk_at "vs"
      refine wc (by omega) ?_
      have pl1 := putQ_len aq (Sum.inr x) .non
      have vq : ∀ (q : Qs) (d : D) (s : Str), valD (putQ q (Sum.inr x) d) (Sum.inr s) = if s = x then some d else valD q (Sum.inr s) := fun q d s => by
        rw [valD_put]
        by_cases z : s = x
        · rw [if_pos z, if_pos (by rw [z])]
        · rw [if_neg z, if_neg fun e => z (by injection e)]
      refine w_join (fun σ' => ∃ (ab : Option Str) (aq2 : Qs) (dk5 : W) (n : Nat), σ' = [some dk5, some (.v (.int (if big = true then 1 else 0))), some (.l (ns.map D.str)), some (.l []), some (.l (os.map D.str)), some (.q (deepQ gd)), some (.q aq2), some (.v (.int k)), some (.v (.str x)), some (.l (ss.map D.str)), none, none, none, none] ∧
        DeckW dk5 ∧ aq2.length ≤ 2 * k + 2 ∧ (∀ s, valD aq2 (Sum.inr s) = if s = x then some (abD ab) else valD aq (Sum.inr s)) ∧
        gGet (dctD (deepQ gd)) (abD ab) (.int 0) = some (.int n) ∧ n < 4 ∧ (∀ a, ab = some a → ∃ y ∈ gd, y.1.nm = a ∧ n = y.2) ∧ (ab = none → n = 0)) ?_ ?_
      · walk_at "vi"
        refine g_neNil oks ?_
        walk_at "vs"
        refine wib (fun hne => ?_) (fun hnil => ?_)
        · have ss0 : 0 < ss.length := by
            cases ss with
            | nil => cases hne
            | cons => simp
          walk_at "vs"
          refine w_draw hd4 (by decide) (by decide) fun v dk5 hd5 v0 v1 => ?_
          walk_at "vs"
          refine wi (fun hv => ?_) (fun hv => ?_)
          · walk_at "vs"
            refine w_draw hd5 (by rw [List.length_map]; omega) (by rw [List.length_map]; omega) fun u1 dk6 hd6 u10 u11 => ?_
            rw [List.length_map] at u11
            walk_at "vs"
            refine w_draw hd6 (by decide) (by decide) fun u2 dk7 hd7 u20 u21 => ?_
            walk_at "vs"
            rw [List.length_map]
            obtain ⟨j, ej, j0, j1⟩ : ∃ j, atI [D.int ((ss.length : Nat) - 1), D.int u1] u2 = some (.int j) ∧ 0 ≤ j ∧ j < ss.length := by
              rcases (by omega : u2 = 0 ∨ u2 = 1) with rfl | rfl
              · exact ⟨_, rfl, by omega, by omega⟩
              · exact ⟨_, rfl, u10, u11⟩
            rw [ej]
            walk_at "vs"
            obtain ⟨da, hc, hma⟩ := at_in (ds := ss.map D.str) j0 (by rw [List.length_map]; exact j1)
            rw [hc]
            obtain ⟨a, ha, rfl⟩ := List.mem_map.mp hma
            rw [ess] at ha
            obtain ⟨y, hy, rfl⟩ := List.mem_map.mp ha
            obtain ⟨z, hz, ez, zv, z4⟩ := deep_of (gd := gd) (List.mem_filter.mp hy).2
            walk_at "vs"
            refine wc (by omega) ?_
            refine ⟨some y.1.nm, _, dk7, z.2, rfl, hd7, ?_, fun s => ?_, ?_, z4, fun a ea => ?_, fun ea => (by cases ea)⟩
            · have := putQ_len (putQ aq (Sum.inr x) .non) (Sum.inr x) (.str y.1.nm)
              omega
            · rw [vq, vq]
              by_cases z : s = x
              · rw [if_pos z, if_pos z]
                rfl
              · rw [if_neg z, if_neg z, if_neg z]
            · show gGet (dctD (deepQ gd)) (.str y.1.nm) (.int 0) = _
              rw [g_getS, zv]
              rfl
            · cases ea
              exact ⟨z, hz, ez, rfl⟩
          · walk_at "vs"
            exact ⟨none, _, dk5, 0, rfl, hd5, by omega, vq aq .non, g_getN, by decide, fun a ea => (by cases ea), fun _ => rfl⟩
        · walk_at "vs"
          exact ⟨none, _, dk4, 0, rfl, hd4, by omega, vq aq .non, g_getN, by decide, fun a ea => (by cases ea), fun _ => rfl⟩
      · rintro σ' ⟨ab, aq2, dk5, n, rfl, hd5, al2, hv2, hget, hn4, hab, hno⟩
        walk_at "vs"
        rw [hv2 x, if_pos rfl]
        walk_at "vs"
        rw [hget]
        walk_at "vs"
        refine wc dl ?_
        rw [putQ_new nonew]
        refine ⟨gd ++ [(⟨x, ab, 1, 1, 0⟩, 1 + n)], aq2, dk5, some (.v (.int k)), some (.v (.str x)), some (.l (ss.map D.str)), ?_, ?_, ?_, by omega, ?_, hd5⟩
        · unfold deepQ
          rw [List.map_append, show (1 : Int) + (n : Nat) = ((1 + n : Nat) : Int) by omega]
          rfl
        · rw [List.map_append, hn, List.take_add_one, ek]
          rfl
        · refine hok.snoc ⟨okx, show (1 : Int) ≤ 1 by decide, show (1 : Int) ≤ 1000 by decide, show (1 : Int) ≤ 1 by decide, show (1 : Int) ≤ 1000 by decide, show (0 : Int) ≤ 0 by decide, show (0 : Int) ≤ 1000 by decide⟩ (by omega) (fun a ea => ?_) (fun ea => ?_)
          · obtain ⟨y, hy, e1, e2⟩ := hab a ea
            exact ⟨y, hy, e1, by omega⟩
          · have := hno ea
            omega
        · intro y hy
          rw [hv2]
          rcases List.mem_append.mp hy with z | z
          · rw [if_neg (xnew y z)]
            exact hav y z
          · rw [List.mem_singleton.mp z, if_pos rfl]
  · rintro σ ⟨gd, aq, dk4, z7, z8, z9, rfl, hn, hok, hal, hav, hd4⟩
    rw [enum_len, List.length_map, List.take_length] at hn
    walk_at "vs"
    rw [g_sortedS (by omega)]
    obtain ⟨ts, ets⟩ : ∃ ts, ts = sortS ns := ⟨_, rfl⟩
    have pts : ts.Perm ns := by
      rw [ets]
      exact sortS_perm _
    have tlt : ts.Pairwise ltS := by
      rw [ets]
      exact sortS_lt ndw
    have tok : ∀ t ∈ ts, NameS t := fun t ht => nok t (pts.subset ht)
    have tgd : ∀ t ∈ ts, ∃ y ∈ gd, y.1.nm = t := fun t ht => by
      have := hp.symm.subset (pts.subset ht)
      rw [← hn] at this
      exact List.mem_map.mp this
    rw [← ets]
    walk_at "vs"
    refine for_inv (fun k σ => ∃ (gs : List Gr) (dk5 : W) (z8 z11 z12 : Option W), σ = [some dk5, some (.v (.int (if big = true then 1 else 0))), some (.l (ns.map D.str)), some (.l []), some (.l (os.map D.str)), some (.q (deepQ gd)), some (.q aq), z7, z8, z9, some (.l (gs.map Gr.d)), z11, z12, none] ∧
      gs.map Gr.nm = ts.take k ∧ (∀ x ∈ gs, GrOk x ∧ valD aq (Sum.inr x.nm) = some (abD x.ab)) ∧ DeckW dk5) ⟨[], dk4, z8, none, none, rfl, rfl, by simp, hd4⟩ (fun _ _ _ _ => trivial) ?_ ?_
    · rintro k d σ e ⟨gs, dk5, z8', z11, z12, rfl, hgn, hgo, hd5⟩
      have hk : k < ts.length := by
        have := (List.getElem?_eq_some_iff.mp e).1
        rw [List.length_map] at this
        exact this
      have e2 : ts[k]? = some ts[k] := List.getElem?_eq_getElem hk
      rw [List.getElem?_map, e2] at e
      cases e
      obtain ⟨t, et⟩ : ∃ t, t = ts[k] := ⟨_, rfl⟩
      have ht : t ∈ ts := by
        rw [et]
        exact List.getElem_mem hk
      show W1 (yN 8 (.str ts[k]) _) (q := _)
      rw [← et] at e2 ⊢
      have gsl : gs.length = k := by
        have := congrArg List.length hgn
        rw [List.length_map, List.length_take] at this
        omega
      obtain ⟨y, hy, ey⟩ := tgd t ht
      have hvt := hav y hy
      rw [ey] at hvt
      have tl := pts.length_eq
      walk_at "vs"
      refine w_number hd5 (by decide) (by decide) fun u1 dk6 hd6 u10 u11 => ?_
      walk_at "vs"
      refine w_draw hd6 (by decide) (by decide) fun u2 dk7 hd7 u20 u21 => ?_
      walk_at "vs"
      obtain ⟨db, hc, hm⟩ := at_in (ds := [.int 0, .int 1, .int u1, .int 1000]) u20 (by simp; omega)
      obtain ⟨b, rfl, b0, b1⟩ : ∃ q, db = .int q ∧ 0 ≤ q ∧ q ≤ 1000 := by
        simp only [List.mem_cons, List.not_mem_nil, or_false] at hm
        rcases hm with rfl | rfl | rfl | rfl
        all_goals exact ⟨_, rfl, by omega, by omega⟩
      rw [hc]
      walk_at "vs"
      refine w_number hd7 (by decide) (by decide) fun u3 dk8 hd8 u30 u31 => ?_
      walk_at "vs"
      refine w_draw hd8 (by decide) (by decide) fun u4 dk9 hd9 u40 u41 => ?_
      walk_at "vs"
      obtain ⟨dp, hc2, hm2⟩ := at_in (ds := [.int 1, .int 2, .int 3, .int 5, .int 9, .int 10, .int 100, .int u3]) u40 (by simp; omega)
      obtain ⟨p, rfl, p0, p1⟩ : ∃ q, dp = .int q ∧ 1 ≤ q ∧ q ≤ 1000 := by
        simp only [List.mem_cons, List.not_mem_nil, or_false] at hm2
        rcases hm2 with rfl | rfl | rfl | rfl | rfl | rfl | rfl | rfl
        all_goals exact ⟨_, rfl, by omega, by omega⟩
      rw [hc2]
      walk_at "vs"
      rw [hvt]
      walk_at "vs"
      refine w_number hd9 (by decide) (by decide) fun u5 dk10 hd10 u50 u51 => ?_
      walk_at "vs"
      refine wc (by rw [List.length_map]; omega) ?_
      refine ⟨gs ++ [⟨t, y.1.ab, u5, p, b⟩], dk10, some (.v (.str t)), some (.v (.int b)), some (.v (.int p)), ?_, ?_, fun x hx => ?_, hd10⟩
      · rw [List.map_append]
        rfl
      · rw [List.map_append, hgn, List.take_add_one, e2]
        rfl
      · rcases List.mem_append.mp hx with z | z
        · exact hgo x z
        · rw [List.mem_singleton.mp z]
          exact ⟨⟨tok t ht, u50, u51, p0, p1, b0, b1⟩, hvt⟩
    · rintro σ ⟨gs, dk5, z8', z11, z12, rfl, hgn, hgo, hd5⟩
      rw [List.length_map, List.take_length] at hgn
      walk_at "vs"
      have ndg : (gd.map fun x => x.1.nm).Nodup := by
        rw [hn]
        exact ndo
      have gsl : gs.length = w.toNat := by
        have := congrArg List.length hgn
        rw [List.length_map, pts.length_eq] at this
        omega
      have same : ∀ g ∈ gs, ∃ y ∈ gd, y.1.nm = g.nm ∧ y.1.ab = g.ab := fun g hg => by
        obtain ⟨y, hy, ey⟩ := tgd g.nm (by rw [← hgn]; exact List.mem_map.mpr ⟨g, hg, rfl⟩)
        have h1 := hav y hy
        rw [ey, (hgo g hg).2] at h1
        injection h1 with h1
        exact ⟨y, hy, ey, (abD_inj h1).symm⟩
      refine q gs (depOf gd) dk5 hd5 (by omega) (by omega) (by rw [hgn]; exact tlt) ⟨fun g hg => (hgo g hg).1, ?_, fun g hg => ?_, fun g hg a ea => ?_, fun g hg ea => ?_⟩
      · rw [hgn]
        exact pts.nodup_iff.mpr ndw
      · obtain ⟨y, hy, e3, e4⟩ := same g hg
        rw [← e3, depOf_at ndg hy]
        exact hok.d4 y hy
      · obtain ⟨y, hy, e3, e4⟩ := same g hg
        obtain ⟨z, hz, e5, e6⟩ := hok.ab y hy a (e4.trans ea)
        refine ⟨?_, ?_⟩
        · rw [hgn]
          refine pts.symm.subset (hp.subset ?_)
          rw [← hn, ← e5]
          exact List.mem_map.mpr ⟨z, hz, rfl⟩
        · rw [← e3, ← e5, depOf_at ndg hy, depOf_at ndg hz]
          exact e6
      · obtain ⟨y, hy, e3, e4⟩ := same g hg
        rw [← e3, depOf_at ndg hy]
        exact hok.no y hy (e4.trans ea)
end LK
end
section
namespace LK
open PySem L2 FL
local macro_rules | `(tactic| walk_at "vside") => `(tactic| first | assumption | omega | decide | (refine mulR ?_; constructor <;> omega) | (refine mulL ?_; constructor <;> omega) | (refine divOk ?_ ?_ <;> omega) | (refine ⟨?_, ?_, ?_⟩ <;> decide) | (refine ⟨?_, ?_⟩ <;> omega) | (simp only [List.length_append, List.length_cons, List.length_nil, List.length_map, List.length_range]; omega))
local macro_rules | `(tactic| walk_at "vs") => `(tactic| simp -implicitDefEqProofs only [xSortSet, e_listN, e_popAt, e_get1, e_O, e_pv, e_ls, e_qs, e_bl, e_nt, e_T, e_F, e_CT, e_var, e_rd, e_mv, e_c, e_xV, e_xD, e_xP, e_op, e_opF, e_opP, e_un, e_b, e_yes, e_and, e_or, e_not, e_if, e_andV, e_orV, e_notV, e_chain, e_nil, e_cons, e_tup, e_lst, e_lstN, e_dnew, e_no, e_pt, e_sl, e_slF, e_slP, e_slN, e_lsv, e_get, e_app,
  e_next, e_break, e_cont, e_seq, e_drop, e_dropF, e_ret, e_retN, e_asg, e_yN, e_ysNil, e_ysCons, e_yT, e_asgF, e_par, e_hd, e_aug, e_setL, e_dput, e_kS, e_kI, e_fn, e_arNil, e_arRf, e_arEx, e_resN, e_resL, e_resR, e_bkN, e_bkL, e_bkR, e_run, e_oN, e_oC, e_for, e_iL, e_iT, e_some, e_someE, e_iP, e_iK, e_iF, e_iR1, e_iR2, e_iS, e_lc, e_dc, e_yC1, e_yCm, e_sa0, e_sa, e_wi0, e_wi, e_re0, e_re, e_lockS, e_lockF, e_items, e_iEn, e_iEnP, e_yStar, e_asgS, g_rep,
  g_addI, g_addL, g_addT, g_addS, g_subI, g_mulI, g_divI, g_modI, g_powI, g_negI, g_ltI, g_ltS, g_leI, g_gtI, g_geI, g_eqI, g_eqS, g_eqB, g_neI, g_neS, g_neB, g_isN, g_notN, isN1, isN2, isN3, g_ixT, g_ixL, g_ixZ, g_lenT, g_lenL, g_lenZ, g_min, g_max, g_intB, g_intI, g_tupL, g_tupT, g_lstT, g_lstL, g_cutT, g_cutL, g_cutZ, g_dgS, g_dgI, g_getS, g_getI, g_getN, g_diS, isS_d, vo_v, vo_l, vo_q, vo_f, vw_v, vw_l, vw_q, vw_f, at0, at1, at2, at3, at4, ix0, ix1, ix2,
  refsA, List.nodup_cons, List.mem_cons, List.not_mem_nil, List.nodup_nil, not_false_eq_true, and_true, true_and, or_false, false_or, and_self, not_true_eq_false, List.length_cons, List.length_nil, List.map_cons, List.map_nil, List.replicate, List.cons_append, List.nil_append, List.set_cons_zero, List.set_cons_succ, List.getElem?_cons_zero, List.getElem?_cons_succ, List.tail_cons, Nat.reduceAdd, Nat.reduceSub, Nat.reduceLeDiff, Nat.reduceEqDiff, Int.reduceLT, Int.reduceLE, Int.reduceNeg, Int.reduceEq, decide_true, decide_false, Bool.not_true, Bool.not_false, Nat.zero_le, Option.some.injEq, reduceCtorEq, Nat.zero_add])
local macro_rules | `(tactic| walk_at "vc") => `(tactic| (repeat (refine wc ?c ?_; (case c => walk_at "vside"))))
local macro_rules | `(tactic| walk_at "vgo") => `(tactic| (walk_at "vs"; walk_at "vc"))
local macro_rules | `(tactic| walk_at "vi") => `(tactic| ((try walk_at "vgo"); rw [e_ifS]; walk_at "vgo"))

theorem w_plan {dk : W} {Q : W → List W → Prop} (hd : DeckW dk) (q : ∀ P dep dk', DeckW dk' → PlOk P dep → Q (.v P.d) [dk']) : WE (F_law_plan [dk]) (q := ⟨Q⟩) := by
  unfold F_law_plan X_law_plan
  walk_at "vs"
  refine w_draw hd (by decide) (by decide) fun gr dk1 hd1 r0 r1 => ?_
  walk_at "vs"
  refine w_ways hd1 fun l p k t dk2 hd2 wo => ?_
  walk_at "vs"
  obtain ⟨big, eb⟩ : ∃ b, b = decide (gr = 5) := ⟨_, rfl⟩
  rw [← eb]
  refine w_groups hd2 fun gs dep dk3 hd3 g0 g1 glt gok => ?_
  walk_at "vs"
  refine w_draw hd3 (by decide) (by decide) fun n0 dk4 hd4 n00 n01 => ?_
  walk_at "vs"
  have e2 : ∀ (x : Int) (b : Bool), atI [D.int x, D.int 12] (if b then 1 else 0) = some (.int (if b then 12 else x)) := fun x b => by cases b <;> rfl
  rw [e2]
  walk_at "vs"
  obtain ⟨w, ew⟩ : ∃ w, w = (if big then (12 : Int) else n0) := ⟨_, rfl⟩
  have w0 : 0 ≤ w ∧ w ≤ 12 := by
    rw [ew]
    cases big <;> simp <;> omega
  rw [← ew]
  refine w_words2 hd4 w0.1 (by omega) fun wl ns dk5 hwl hd5 nl ndw nok => ?_
  rw [hwl]
  walk_at "vs"
  have gne : gs.map Gr.d ≠ [] := fun z => by
    have := congrArg List.length z
    rw [List.length_map] at this
    simp at this
    rw [this] at g0
    simp at g0
  refine w_join (fun σ' => ∃ (z4 dk6 : W) (ms : List Str), σ' = [some dk6, some (W.v (D.int (if big = true then 1 else 0))), some (W.v (D.tup [D.int l, D.int p, D.int k, D.int t])), some (W.v (D.tup (List.map Gr.d gs))), some z4, none, none, none] ∧
    z4.vo = some (.lst (ms.map D.str)) ∧ ms.length ≤ 12 ∧ (∀ s ∈ ms, NameS s) ∧ DeckW dk6) ?_ ?_
  · walk_at "vi"
    refine w_draw hd5 (by decide) (by decide) fun v dk6 hd6 v0 v1 => ?_
    walk_at "vs"
    refine wi (fun hv => ?_) (fun hv => ?_)
    · walk_at "vs"
      refine g_neNil nok ?_
      walk_at "vs"
      refine wib (fun hne => ?_) (fun hnil => ?_)
      · walk_at "vs"
        cases gs with
        | nil => exact (gne rfl).elim
        | cons g gs =>
          cases ns with
          | nil => cases hne
          | cons n ns =>
            have ec : cutD (D.str n :: ns.map D.str) (some 1) none = ns.map D.str := by
              unfold cutD
              rw [HT.sIx_none, show HT.sIx (D.str n :: ns.map D.str).length 0 (some 1) = min 1 (D.str n :: ns.map D.str).length from HT.sIx_nat _ _ 1]
              simp
              exact List.take_of_length_le (by rw [List.length_map]; exact Nat.le_refl _)
            rw [show atI ((g :: gs).map Gr.d) 0 = some g.d by
              unfold atI
              rw [ix_in (Int.le_refl 0) (by simp)]
              rfl]
            rw [show g.d = .tup [.str g.nm, abD g.ab, .int g.q, .int g.p, .int g.b] from rfl]
            walk_at "vs"
            rw [ec]
            rw [List.length_cons] at nl
            refine wc (by rw [List.length_map]; omega) ?_
            refine ⟨_, dk6, g.nm :: ns, rfl, rfl, by rw [List.length_cons]; omega, fun s hs => ?_, hd6⟩
            rcases List.mem_cons.mp hs with z | z
            · rw [z]
              exact (gok.ok g (List.mem_cons_self ..)).nm
            · exact nok s (List.mem_cons_of_mem _ z)
      · walk_at "vs"
        exact ⟨_, dk6, ns, rfl, rfl, by omega, nok, hd6⟩
    · walk_at "vs"
      exact ⟨_, dk6, ns, rfl, rfl, by omega, nok, hd6⟩
  · rintro σ' ⟨z4, dk6, ms, rfl, hz, ml, mok, hd6⟩
    walk_at "vs"
    rw [hz]
    walk_at "vs"
    obtain ⟨ts, ets⟩ : ∃ ts, ts = unqS ms := ⟨_, rfl⟩
    have tlt : ts.Pairwise ltS := by
      rw [ets]
      exact unqS_lt ms
    have tl : ts.length ≤ 12 := by
      rw [ets]
      have := unqS_len ms
      omega
    have tok : ∀ t ∈ ts, NameS t := fun t ht => mok t (by rw [ets] at ht; exact unqS_mem.mp ht)
    rw [g_sortSet (by omega), ← ets]
    walk_at "vs"
    refine for_inv (fun i σ => ∃ (hs : List Hd) (dk7 : W) (z6 z7 : Option W), σ = [some dk7, some (W.v (D.int (if big = true then 1 else 0))), some (W.v (D.tup [D.int l, D.int p, D.int k, D.int t])), some (W.v (D.tup (List.map Gr.d gs))), some z4, some (.l (hs.map Hd.d)), z6, z7] ∧
      hs.map Hd.nm = ts.take i ∧ (∀ x ∈ hs, HdOk (gs.map Gr.nm) l x) ∧ DeckW dk7) ⟨[], dk6, none, none, rfl, rfl, by simp, hd6⟩ (fun _ _ _ _ => trivial) ?_ ?_
    · rintro i d σ e ⟨hs, dk7, z6, z7, rfl, hn, hok, hd7⟩
      have hi : i < ts.length := by
        have := (List.getElem?_eq_some_iff.mp e).1
        rw [List.length_map] at this
        exact this
      have e2 : ts[i]? = some ts[i] := List.getElem?_eq_getElem hi
      rw [List.getElem?_map, e2] at e
      cases e
      have hsl : hs.length = i := by
        have := congrArg List.length hn
        rw [List.length_map, List.length_take] at this
        omega
      obtain ⟨x, ex⟩ : ∃ x, x = ts[i] := ⟨_, rfl⟩
      have okx : NameS x := by
        rw [ex]
        exact tok _ (List.getElem_mem hi)
      show W1 (yN 6 (.str ts[i]) _) (q := _)
      rw [← ex] at e2 ⊢
      walk_at "vs"
      refine w_draw hd7 (by decide) (by decide) fun u1 dk8 hd8 u10 u11 => ?_
      walk_at "vs"
      refine w_draw hd8 (by decide) (by decide) fun u2 dk9 hd9 u20 u21 => ?_
      walk_at "vs"
      obtain ⟨dw, hc, hm⟩ := at_in (ds := [.int 1, .int 2, .int 3, .int 7, .int 100, .int (1 + u1)]) u20 (by simp; omega)
      obtain ⟨wt, rfl, wt0, wt1⟩ : ∃ k, dw = .int k ∧ 1 ≤ k ∧ k ≤ 100 := by
        simp only [List.mem_cons, List.not_mem_nil, or_false] at hm
        rcases hm with rfl | rfl | rfl | rfl | rfl | rfl
        all_goals exact ⟨_, rfl, by omega, by omega⟩
      rw [hc]
      walk_at "vs"
      refine w_pick hd9 (Or.inr rfl) gne (by rw [List.length_map]; omega) fun dg dk10 hd10 hmg => ?_
      obtain ⟨g, hg, rfl⟩ := List.mem_map.mp hmg
      rw [show g.d = .tup [.str g.nm, abD g.ab, .int g.q, .int g.p, .int g.b] from rfl]
      walk_at "vs"
      refine w_draw hd10 (by have := wo.l0; omega) (by have := wo.l1; omega) fun ln dk11 hd11 ln0 ln1 => ?_
      walk_at "vs"
      refine wc (by rw [List.length_map]; omega) ?_
      refine ⟨hs ++ [⟨x, g.nm, wt, ln⟩], dk11, some (.v (.str x)), some (.v (.int wt)), ?_, ?_, fun y hy => ?_, hd11⟩
      · rw [List.map_append]
        rfl
      · rw [List.map_append, hn, List.take_add_one, e2]
        rfl
      · rcases List.mem_append.mp hy with z | z
        · exact hok y z
        · rw [List.mem_singleton.mp z]
          exact ⟨okx, List.mem_map.mpr ⟨g, hg, rfl⟩, wt0, wt1, ln0, ln1⟩
    · rintro σ ⟨hs, dk7, z6, z7, rfl, hn, hok, hd7⟩
      rw [List.length_map, List.take_length] at hn
      walk_at "vs"
      refine q ⟨l, p, k, t, gs, hs⟩ dep dk7 hd7 ⟨wo, g0, g1, glt, gok, ?_, ?_, hok⟩
      · show hs.length ≤ 12
        have := congrArg List.length hn
        rw [List.length_map] at this
        omega
      · show (hs.map Hd.nm).Pairwise ltS
        rw [hn]
        exact tlt
end LK
end
section
namespace LK
open PySem L2 FL
/-- line_up(above, name): 0 above, 1 name, 2 found -/
noncomputable def X_line_up : XS := (xSeq (xAsgF (xLstN (xCons (xVar 1) xNil)) 2)
        (xSeq (xWhile (xAnd (xB (xOp gNotN (xOpP gDGet 0 (xOpP gIx 2 (xUn gNeg (xC (.int 1))))) (xC .non))) (xB (xOp gLe (xUn gLen (xRd 2)) (xC (.int 4)))))
            (xDrop (xApp 2 (xOpP gDGet 0 (xOpP gIx 2 (xUn gNeg (xC (.int 1))))))))
        (xRet (xV (xUn gTuple (xRd 2))))))
noncomputable def F_line_up : VF := runF 3 [0] X_line_up
/-- named(things, name): 0 things, 1 name, 2 one -/
noncomputable def X_named : XS := (xRet (xV (xOpF gIx (xLc (iT (xVar 0)) (yC (.one 2)) (xB (xOp gEq (xOp gIx (xVar 2) (xC (.int 0))) (xVar 1))) (xVar 2) [2]) (xC (.int 0)))))
noncomputable def F_named : VF := runF 3 [] X_named
/-- group_of(plan, name): 0 plan, 1 name -/
noncomputable def X_group_of : XS := (xRet (xFn 2 F_named [.ex (xV (xOp gIx (xVar 0) (xC (.int 1)))), .ex (xV (xVar 1))]))
noncomputable def F_group_of : VF := runF 2 [] X_group_of
/-- line_of(plan, group): 0 plan, 1 group, 2 one -/
noncomputable def X_line_of : XS := (xRet (xFn 2 F_line_up [.ex (xDc (iT (xOp gIx (xVar 0) (xC (.int 1)))) (yC (.one 2)) xYes (xOp gIx (xVar 2) (xC (.int 0))) (xOp gIx (xVar 2) (xC (.int 1))) [2]), .ex (xV (xVar 1))]))
noncomputable def F_line_of : VF := runF 3 [] X_line_of
/-- beneath(plan, group): 0 plan, 1 group, 2 hand -/
noncomputable def X_beneath : XS := (xRet (xV (xUn gTuple (xD (xLc (iT (xOp gIx (xVar 0) (xC (.int 2)))) (yC (.one 2)) (xB (xOp (gIn false) (xVar 1) (xD (xFn 2 F_line_of [.ex (xV (xVar 0)), .ex (xV (xOp gIx (xVar 2) (xC (.int 1))))])))) (xOp gIx (xVar 2) (xC (.int 0))) [2])))))
noncomputable def F_beneath : VF := runF 3 [] X_beneath
/-- groups_beneath(plan, group): 0 plan, 1 group, 2 one -/
noncomputable def X_groups_beneath : XS := (xRet (xV (xUn gTuple (xD (xLc (iT (xOp gIx (xVar 0) (xC (.int 1)))) (yC (.one 2)) (xB (xOp (gIn false) (xVar 1) (xD (xFn 2 F_line_of [.ex (xV (xVar 0)), .ex (xV (xOp gIx (xVar 2) (xC (.int 0))))])))) (xOp gIx (xVar 2) (xC (.int 0))) [2])))))
noncomputable def F_groups_beneath : VF := runF 3 [] X_groups_beneath
/-- is_lone(plan, group): 0 plan, 1 group -/
noncomputable def X_is_lone : XS := (xRet (xV (xAndV (xOp gIsN (xOpF gIx (xFn 2 F_group_of [.ex (xV (xVar 0)), .ex (xV (xVar 1))]) (xC (.int 1))) (xC .non)) (xOpF gEq (xFn 2 F_groups_beneath [.ex (xV (xVar 0)), .ex (xV (xVar 1))]) (xTup (xCons (xVar 1) xNil))))))
noncomputable def F_is_lone : VF := runF 2 [] X_is_lone
end LK
end
section
namespace LK
open PySem L2 FL
local macro_rules | `(tactic| walk_at "vside") => `(tactic| first | assumption | omega | decide | (refine mulR ?_; constructor <;> omega) | (refine mulL ?_; constructor <;> omega) | (refine divOk ?_ ?_ <;> omega) | (refine ⟨?_, ?_, ?_⟩ <;> decide) | (refine ⟨?_, ?_⟩ <;> omega) | (simp only [List.length_append, List.length_cons, List.length_nil, List.length_map, List.length_range]; omega))
local macro_rules | `(tactic| walk_at "vs") => `(tactic| simp -implicitDefEqProofs only [e_listN, e_popAt, e_get1, xSortSet, e_O, e_pv, e_ls, e_qs, e_bl, e_nt, e_T, e_F, e_CT, e_var, e_rd, e_mv, e_c, e_xV, e_xD, e_xP, e_op, e_opF, e_opP, e_un, e_b, e_yes, e_and, e_or, e_not, e_if, e_andV, e_orV, e_notV, e_chain, e_nil, e_cons, e_tup, e_lst, e_lstN, e_dnew, e_no, e_pt, e_sl, e_slF, e_slP, e_slN, e_lsv, e_get, e_app,
  e_next, e_break, e_cont, e_seq, e_drop, e_dropF, e_ret, e_retN, e_asg, e_yN, e_ysNil, e_ysCons, e_yT, e_asgF, e_par, e_hd, e_aug, e_setL, e_dput, e_kS, e_kI, e_fn, e_arNil, e_arRf, e_arEx, e_resN, e_resL, e_resR, e_bkN, e_bkL, e_bkR, e_run, e_oN, e_oC, e_for, e_iL, e_iT, e_some, e_someE, e_iP, e_iK, e_iF, e_iR1, e_iR2, e_iS, e_lc, e_dc, e_yC1, e_yCm, e_sa0, e_sa, e_wi0, e_wi, e_re0, e_re, e_lockS, e_lockF, e_items, e_iEn, e_iEnP, e_yStar, e_asgS, g_rep,
  g_addI, g_addL, g_addT, g_addS, g_subI, g_mulI, g_divI, g_modI, g_powI, g_negI, g_ltI, g_ltS, g_leI, g_gtI, g_geI, g_eqI, g_eqS, g_eqB, g_neI, g_neS, g_neB, g_isN, g_notN, isN1, isN2, isN3, g_ixT, g_ixL, g_ixZ, g_lenT, g_lenL, g_lenZ, g_min, g_max, g_intB, g_intI, g_tupL, g_tupT, g_lstT, g_lstL, g_cutT, g_cutL, g_cutZ, g_dgS, g_dgI, g_getS, g_getI, g_getN, g_diS, isS_d, vo_v, vo_l, vo_q, vo_f, vw_v, vw_l, vw_q, vw_f, at0, at1, at2, at3, at4, ix0, ix1, ix2,
  refsA, List.nodup_cons, List.mem_cons, List.not_mem_nil, List.nodup_nil, not_false_eq_true, and_true, true_and, or_false, false_or, and_self, not_true_eq_false, List.length_cons, List.length_nil, List.map_cons, List.map_nil, List.replicate, List.cons_append, List.nil_append, List.set_cons_zero, List.set_cons_succ, List.getElem?_cons_zero, List.getElem?_cons_succ, List.tail_cons, Nat.reduceAdd, Nat.reduceSub, Nat.reduceLeDiff, Nat.reduceEqDiff, Int.reduceLT, Int.reduceLE, Int.reduceNeg, Int.reduceEq, decide_true, decide_false, Bool.not_true, Bool.not_false, Nat.zero_le, Option.some.injEq, reduceCtorEq, Nat.zero_add])
local macro_rules | `(tactic| walk_at "vc") => `(tactic| (repeat (refine wc ?c ?_; (case c => walk_at "vside"))))
local macro_rules | `(tactic| walk_at "vgo") => `(tactic| (walk_at "vs"; walk_at "vc"))
local macro_rules | `(tactic| walk_at "vi") => `(tactic| ((try walk_at "vgo"); rw [e_ifS]; walk_at "vgo"))

def isNm (s : Str) : D → Bool
  | .tup (.str n :: _) => decide (n = s)
  | _ => false
theorem filter_nm {gs : List Gr} (nd : (gs.map Gr.nm).Nodup) {x : Gr} (hx : x ∈ gs) : (gs.map Gr.d).filter (isNm x.nm) = [x.d] := by
  induction gs with
  | nil => cases hx
  | cons y gs ih =>
    rw [List.map_cons, List.nodup_cons] at nd
    rw [List.map_cons, List.filter_cons]
    show (if decide (y.nm = x.nm) = true then _ else _) = _
    rcases List.mem_cons.mp hx with z | z
    · subst z
      rw [if_pos (decide_eq_true rfl)]
      have : (gs.map Gr.d).filter (isNm x.nm) = [] := by
        refine List.filter_eq_nil_iff.mpr fun d hd => ?_
        obtain ⟨y, hy, rfl⟩ := List.mem_map.mp hd
        show ¬ decide (y.nm = x.nm) = true
        exact fun e => nd.1 (by rw [← of_decide_eq_true e]; exact List.mem_map.mpr ⟨y, hy, rfl⟩)
      rw [this]
    · rw [if_neg fun e => nd.1 (by rw [of_decide_eq_true e]; exact List.mem_map.mpr ⟨x, z, rfl⟩)]
      exact ih nd.2 z
section
variable {gs : List Gr} {dep : Str → Nat}
def abQ (gs : List Gr) : Qs := gs.map fun g => (Sum.inr g.nm, abD g.ab)
theorem w_line_up (ok : GrsOk gs dep) {s : Str} (hs : s ∈ gs.map Gr.nm) {Q : W → List W → Prop} (q : Q (.v (.tup ((line gs dep s).map D.str))) [.q (abQ gs), .v (.str s)]) : WE (F_line_up [.q (abQ gs), .v (.str s)]) (q := ⟨Q⟩) := by
  unfold F_line_up X_line_up
  walk_at "vs"
  have l4 := line_len ok s hs
  have d4 := dep4 ok hs
  refine while_inv (fun n σ => ∃ (pre : List Str) (t : Str), t ∈ gs.map Gr.nm ∧ n = dep t ∧ pre ++ line gs dep t = line gs dep s ∧ σ = [some (.q (abQ gs)), some (.v (.str s)), some (.l ((pre ++ [t]).map D.str))]) (n0 := dep s) ⟨[], s, hs, rfl, rfl, rfl⟩ ?_
  rintro n σ ⟨pre, t, ht, rfl, el, rfl⟩
  obtain ⟨x, hx, rfl⟩ := name_of ht
  have hv : valD (abQ gs) (Sum.inr x.nm) = some (abD x.ab) := valD_at ok.nd hx
  have hl : atI ((pre ++ [x.nm]).map D.str) (-1) = some (.str x.nm) := by
    rw [List.map_append]
    exact atI_last
  walk_at "vs"
  rw [hl]
  walk_at "vs"
  rw [hv]
  walk_at "vs"
  cases e : x.ab with
  | none =>
    rw [line_none ok hx e] at el
    show WI (!FL.isNon .non) (a := _) (b := _)
    walk_at "vs"
    rw [el]
    exact q
  | some a =>
    obtain ⟨ha, hda⟩ := ok.ab x hx a e
    have da := dep4 ok ha
    rw [line_some ok hx e] at el
    have len := congrArg List.length el
    rw [List.length_append, List.length_cons, line_len ok a ha, l4] at len
    show WI (!FL.isNon (.str a)) (a := _) (b := _)
    walk_at "vs"
    refine wi (fun _ => ?_) (fun hn => ?_)
    · walk_at "vs"
      rw [hl]
      walk_at "vs"
      rw [hv]
      walk_at "vs"
      refine wc (by rw [List.length_map, List.length_append]; simp; omega) ?_
      refine ⟨dep a, by omega, pre ++ [x.nm], a, ha, rfl, ?_, ?_⟩
      · rw [List.append_assoc]
        exact el
      · rw [List.map_append (l₁ := pre ++ [x.nm]), e]
        rfl
    · exfalso
      apply hn
      rw [List.length_map, List.length_append]
      simp
      omega
def keyG : D → Key × D
  | .tup (.str n :: a :: _) => (Sum.inr n, a)
  | _ => (Sum.inl 0, .non)
theorem w_line_of (ok : GrsOk gs dep) {s : Str} (hs : s ∈ gs.map Gr.nm) (gl : gs.length ≤ 8) {wd hd : D} {Q : W → List W → Prop}
    (q : Q (.v (.tup ((line gs dep s).map D.str))) [.v (.tup [wd, .tup (gs.map Gr.d), hd]), .v (.str s)]) : WE (F_line_of [.v (.tup [wd, .tup (gs.map Gr.d), hd]), .v (.str s)]) (q := ⟨Q⟩) := by
  unfold F_line_of X_line_of
  walk_at "vs"
  refine wc (by rw [List.length_map]; omega) ?_
  refine dc_pure keyG trivial ?_ ?_
  · intro d hd
    obtain ⟨x, hx, rfl⟩ := List.mem_map.mp hd
    show W1 (yC (.one 2) (.tup [.str x.nm, abD x.ab, .int x.q, .int x.p, .int x.b]) _) (q := _)
    walk_at "vs"
    exact ⟨rfl, rfl⟩
  · have e : mergeQ [] ((gs.map Gr.d).map keyG) = abQ gs := by
      rw [List.map_map]
      exact mergeQ_nodup _ (keys_nodup (k := Gr.nm) (f := fun g => abD g.ab) ok.nd)
    rw [e]
    walk_at "vs"
    refine w_line_up ok hs ?_
    walk_at "vs"
    exact q
theorem any_str {l : List Str} {s : Str} : ((l.map D.str).any fun z => eqF z (.str s)) = decide (s ∈ l) := by
  rw [List.any_map]
  induction l with
  | nil => rfl
  | cons a l ih =>
    rw [List.any_cons, ih]
    show ((a == s) || decide (s ∈ l)) = _
    by_cases z : a = s
    · subst z
      simp
    · have z' : ¬ s = a := fun e => z e.symm
      simp [z, z']
theorem all_flat {l : List Str} : (l.map D.str).all flatD = true := by
  rw [List.all_map]
  exact List.all_eq_true.mpr fun _ _ => rfl
theorem g_inT {l : List Str} {s : Str} {neg : Bool} : gIn neg (.str s) (.tup (l.map D.str)) = some (.bl (if neg then !decide (s ∈ l) else decide (s ∈ l))) := by
  unfold gIn
  show (if flatD (.str s) = true ∧ (l.map D.str).all flatD = true then some (D.bl (if neg then !((l.map D.str).any fun z => eqF z (.str s)) else (l.map D.str).any fun z => eqF z (.str s))) else none) = _
  rw [if_pos ⟨rfl, all_flat⟩, any_str]
theorem g_inL {l : List Str} {s : Str} {neg : Bool} : gIn neg (.str s) (.lst (l.map D.str)) = some (.bl (if neg then !decide (s ∈ l) else decide (s ∈ l))) := by
  unfold gIn
  show (if flatD (.str s) = true ∧ (l.map D.str).all flatD = true then some (D.bl (if neg then !((l.map D.str).any fun z => eqF z (.str s)) else (l.map D.str).any fun z => eqF z (.str s))) else none) = _
  rw [if_pos ⟨rfl, all_flat⟩, any_str]
/-- whose group's line has s -/
def pB (gs : List Gr) (dep : Str → Nat) (s : Str) : D → Bool
  | .tup (_ :: .str g :: _) => decide (s ∈ line gs dep g)
  | _ => false
def fB : D → D
  | .tup (n :: _) => n
  | _ => .non
/-- the hands beneath -/
def bn (gs : List Gr) (dep : Str → Nat) (hs : List Hd) (s : Str) : List D := ((hs.map Hd.d).filter (pB gs dep s)).map fB
/-- what is asked of a plan here -/
structure PlR (gs : List Gr) (dep : Str → Nat) (hs : List Hd) : Prop where
  gr : GrsOk gs dep
  gl : gs.length ≤ 8
  hl : hs.length ≤ 20
  hg : ∀ h ∈ hs, h.gr ∈ gs.map Gr.nm
abbrev plD (wd : D) (gs : List Gr) (hs : List Hd) : D := .tup [wd, .tup (gs.map Gr.d), .tup (hs.map Hd.d)]
variable {hs : List Hd} {wd : D} {Q : W → List W → Prop} {s : Str}
theorem w_beneath (ok : PlR gs dep hs) (q : Q (.v (.tup (bn gs dep hs s))) [.v (plD wd gs hs), .v (.str s)]) : WE (F_beneath [.v (plD wd gs hs), .v (.str s)]) (q := ⟨Q⟩) := by
  unfold F_beneath X_beneath
  walk_at "vs"
  refine wc (by rw [List.length_map]; have := ok.hl; omega) ?_
  refine lc_pure (pB gs dep s) fB trivial ?_ ?_
  · intro d hd
    obtain ⟨x, hx, rfl⟩ := List.mem_map.mp hd
    show W1 (yC (.one 2) (.tup [.str x.nm, .str x.gr, .int x.wt, .int x.ln]) _) (q := _)
    walk_at "vs"
    refine w_line_of ok.gr (ok.hg x hx) ok.gl ?_
    walk_at "vs"
    rw [g_inT]
    walk_at "vs"
    refine ⟨rfl, ?_⟩
    refine wib (fun _ => ?_) (fun _ => ?_)
    · walk_at "vs"
      rfl
    · walk_at "vs"
  · walk_at "vs"
    exact q
/-- the groups beneath -/
def gb (gs : List Gr) (dep : Str → Nat) (s : Str) : List Str := (gs.filter fun g => decide (s ∈ line gs dep g.nm)).map Gr.nm
def pG (gs : List Gr) (dep : Str → Nat) (s : Str) : D → Bool
  | .tup (.str g :: _) => decide (s ∈ line gs dep g)
  | _ => false
theorem gb_d : ((gs.map Gr.d).filter (pG gs dep s)).map fB = (gb gs dep s).map D.str := by
  unfold gb
  rw [List.filter_map, List.map_map, List.map_map]
  rfl
theorem w_groups_beneath (ok : PlR gs dep hs) (q : Q (.v (.tup ((gb gs dep s).map D.str))) [.v (plD wd gs hs), .v (.str s)]) : WE (F_groups_beneath [.v (plD wd gs hs), .v (.str s)]) (q := ⟨Q⟩) := by
  unfold F_groups_beneath X_groups_beneath
  walk_at "vs"
  refine wc (by rw [List.length_map]; have := ok.gl; omega) ?_
  refine lc_pure (pG gs dep s) fB trivial ?_ ?_
  · intro d hd
    obtain ⟨x, hx, rfl⟩ := List.mem_map.mp hd
    show W1 (yC (.one 2) (.tup [.str x.nm, abD x.ab, .int x.q, .int x.p, .int x.b]) _) (q := _)
    walk_at "vs"
    refine w_line_of ok.gr (List.mem_map.mpr ⟨x, hx, rfl⟩) ok.gl ?_
    walk_at "vs"
    rw [g_inT]
    walk_at "vs"
    refine ⟨rfl, ?_⟩
    refine wib (fun _ => ?_) (fun _ => ?_)
    · walk_at "vs"
      rfl
    · walk_at "vs"
  · rw [gb_d]
    walk_at "vs"
    exact q
theorem w_group_of {hd : D} (nd : (gs.map Gr.nm).Nodup) (gl : gs.length ≤ 8) {x : Gr} (hx : x ∈ gs) (q : Q (.v x.d) [.v (.tup [wd, .tup (gs.map Gr.d), hd]), .v (.str x.nm)]) : WE (F_group_of [.v (.tup [wd, .tup (gs.map Gr.d), hd]), .v (.str x.nm)]) (q := ⟨Q⟩) := by
  unfold F_group_of X_group_of
  walk_at "vs"
  unfold F_named X_named
  walk_at "vs"
  refine wc (by rw [List.length_map]; omega) ?_
  refine lc_pure (isNm x.nm) (fun d => d) trivial ?_ ?_
  · intro d hd
    obtain ⟨y, hy, rfl⟩ := List.mem_map.mp hd
    show W1 (yC (.one 2) (.tup [.str y.nm, abD y.ab, .int y.q, .int y.p, .int y.b]) _) (q := _)
    walk_at "vs"
    refine ⟨rfl, ?_⟩
    refine wib (fun _ => ?_) (fun _ => ?_)
    · walk_at "vs"
      rfl
    · walk_at "vs"
  · rw [filter_nm nd hx]
    walk_at "vs"
    exact q
def lone (gs : List Gr) (dep : Str → Nat) (x : Gr) : Bool := x.ab.isNone && decide (gb gs dep x.nm = [x.nm])
theorem gb_names {s t : Str} (h : t ∈ gb gs dep s) : t ∈ gs.map Gr.nm := by
  obtain ⟨x, hx, rfl⟩ := List.mem_map.mp h
  exact List.mem_map.mpr ⟨x, (List.mem_filter.mp hx).1, rfl⟩
theorem w_is_lone (ok : PlR gs dep hs) {x : Gr} (hx : x ∈ gs) (q : Q (.v (.bl (lone gs dep x))) [.v (plD wd gs hs), .v (.str x.nm)]) : WE (F_is_lone [.v (plD wd gs hs), .v (.str x.nm)]) (q := ⟨Q⟩) := by
  unfold F_is_lone X_is_lone
  walk_at "vs"
  refine w_group_of ok.gr.nd ok.gl hx ?_
  rw [show x.d = .tup [.str x.nm, abD x.ab, .int x.q, .int x.p, .int x.b] from rfl]
  walk_at "vs"
  cases e : x.ab with
  | some a =>
    rw [show lone gs dep x = false by unfold lone; rw [e]; rfl] at q
    show WI (FL.isNon (.str a)) (a := _) (b := _)
    walk_at "vs"
    exact q
  | none =>
    have el : lone gs dep x = decide (gb gs dep x.nm = [x.nm]) := by
      unfold lone
      rw [e]
      rfl
    rw [el] at q
    show WI (FL.isNon .non) (a := _) (b := _)
    walk_at "vs"
    refine w_groups_beneath ok ?_
    walk_at "vs"
    have hn : ∀ s ∈ gs.map Gr.nm, TxOk s := fun s hs => by
      obtain ⟨y, hy, rfl⟩ := name_of hs
      exact (ok.gr.ok y hy).nm.tx
    rw [show [D.str x.nm] = [x.nm].map D.str from rfl, g_eqTxT (fun s hs => hn s (gb_names hs)) (fun s hs => by rw [List.mem_singleton.mp hs]; exact (ok.gr.ok x hx).nm.tx)]
    walk_at "vs"
    exact q
end
end LK
end
section
namespace LK
open PySem L2 FL
local macro_rules | `(tactic| walk_at "vside") => `(tactic| first | assumption | omega | decide | (refine mulR ?_; constructor <;> omega) | (refine mulL ?_; constructor <;> omega) | (refine divOk ?_ ?_ <;> omega) | (refine ⟨?_, ?_, ?_⟩ <;> decide) | (refine ⟨?_, ?_⟩ <;> omega) | (simp only [List.length_append, List.length_cons, List.length_nil, List.length_map, List.length_range]; omega))
local macro_rules | `(tactic| walk_at "vs") => `(tactic| simp -implicitDefEqProofs only [e_O, e_pv, e_ls, e_qs, e_bl, e_nt, e_T, e_F, e_CT, e_var, e_rd, e_mv, e_c, e_xV, e_xD, e_xP, e_op, e_opF, e_opP, e_un, e_b, e_yes, e_and, e_or, e_not, e_if, e_andV, e_orV, e_notV, e_chain, e_nil, e_cons, e_tup, e_lst, e_lstN, e_dnew, e_no, e_pt, e_sl, e_slF, e_slP, e_slN, e_lsv, e_get, e_app,
  e_next, e_break, e_cont, e_seq, e_drop, e_dropF, e_ret, e_retN, e_asg, e_yN, e_ysNil, e_ysCons, e_yT, e_asgF, e_par, e_hd, e_aug, e_setL, e_dput, e_kS, e_kI, e_fn, e_arNil, e_arRf, e_arEx, e_resN, e_resL, e_resR, e_bkN, e_bkL, e_bkR, e_run, e_oN, e_oC, e_for, e_iL, e_iT, e_some, e_someE, e_iP, e_iK, e_iF, e_iR1, e_iR2, e_iS, e_lc, e_dc, e_yC1, e_yCm, e_sa0, e_sa, e_wi0, e_wi, e_re0, e_re, e_lockS, e_lockF, e_items, e_iEn, e_iEnP, e_yStar, e_asgS, g_rep,
  g_addI, g_addL, g_addT, g_addS, g_subI, g_mulI, g_divI, g_modI, g_powI, g_negI, g_ltI, g_ltS, g_leI, g_gtI, g_geI, g_eqI, g_eqS, g_eqB, g_neI, g_neS, g_neB, g_isN, g_notN, isN1, isN2, isN3, g_ixT, g_ixL, g_ixZ, g_lenT, g_lenL, g_lenZ, g_min, g_max, g_intB, g_intI, g_tupL, g_tupT, g_lstT, g_lstL, g_cutT, g_cutL, g_cutZ, g_dgS, g_dgI, g_getS, g_getI, g_getN, g_diS, isS_d, vo_v, vo_l, vo_q, vo_f, vw_v, vw_l, vw_q, vw_f, at0, at1, at2, at3, at4, ix0, ix1, ix2,
  refsA, List.nodup_cons, List.mem_cons, List.not_mem_nil, List.nodup_nil, not_false_eq_true, and_true, true_and, or_false, false_or, and_self, not_true_eq_false, List.length_cons, List.length_nil, List.map_cons, List.map_nil, List.replicate, List.cons_append, List.nil_append, List.set_cons_zero, List.set_cons_succ, List.getElem?_cons_zero, List.getElem?_cons_succ, List.tail_cons, Nat.reduceAdd, Nat.reduceSub, Nat.reduceLeDiff, Nat.reduceEqDiff, Int.reduceLT, Int.reduceLE, Int.reduceNeg, Int.reduceEq, decide_true, decide_false, Bool.not_true, Bool.not_false, Nat.zero_le, Option.some.injEq, reduceCtorEq, Nat.zero_add])
local macro_rules | `(tactic| walk_at "vc") => `(tactic| (repeat (refine wc ?c ?_; (case c => walk_at "vside"))))
local macro_rules | `(tactic| walk_at "vgo") => `(tactic| (walk_at "vs"; walk_at "vc"))
local macro_rules | `(tactic| walk_at "vi") => `(tactic| ((try walk_at "vgo"); rw [e_ifS]; walk_at "vgo"))

/-! ### a plan is plain -/
theorem gr_pd {x : Gr} (ok : GrOk x) (ha : ∀ a, x.ab = some a → NameS a) : PD x.d 1000 1 := by
  have ab : PD (abD x.ab) 82 0 := by
    cases h : x.ab with
    | none => exact pd_non.wk (by decide) (by decide)
    | some a => exact pd_str (ha a h)
  have h1 := ok.q0
  have h2 := ok.q1
  have h3 := ok.p0
  have h4 := ok.p1
  have h5 := ok.b0
  have h6 := ok.b1
  refine (pd_tup (pds_cons (pd_str ok.nm) (pds_cons ab (pds_cons (pd_int (i := x.q) ?_ ?_) (pds_cons (pd_int (i := x.p) ?_ ?_) (pds_cons (pd_int (i := x.b) ?_ ?_) pds_nil)))))).wk (by decide) (by decide) <;> omega
theorem hd_pd {gn : List Str} {l : Int} {x : Hd} (ok : HdOk gn l x) (l4 : l ≤ 100) (hg : ∀ a ∈ gn, NameS a) : PD x.d 1000 1 := by
  have h1 := ok.w0
  have h2 := ok.w1
  have h3 := ok.l0
  have h4 := ok.l1
  refine (pd_tup (pds_cons (pd_str ok.nm) (pds_cons (pd_str (hg _ ok.gr)) (pds_cons (pd_int (i := x.wt) ?_ ?_) (pds_cons (pd_int (i := x.ln) ?_ ?_) pds_nil))))).wk (by decide) (by decide) <;> omega
theorem pl_pd {P : Pl} {dep : Str → Nat} (ok : PlOk P dep) : PD P.d 30000 3 := by
  have wo := ok.ways
  have nm : ∀ a ∈ P.gs.map Gr.nm, NameS a := fun a ha => by
    obtain ⟨x, hx, rfl⟩ := List.mem_map.mp ha
    exact (ok.gr.ok x hx).nm
  have g : PDs (P.gs.map Gr.d) (8 * 1002) 1 := by
    refine (pds_all (n := 1000) (m := 1) fun d hd => ?_).wk ?_ (by decide)
    · obtain ⟨x, hx, rfl⟩ := List.mem_map.mp hd
      exact gr_pd (ok.gr.ok x hx) fun a ha => nm a (ok.gr.ab x hx a ha).1
    · rw [List.length_map]
      have := ok.g1
      omega
  have h : PDs (P.hs.map Hd.d) (12 * 1002) 1 := by
    refine (pds_all (n := 1000) (m := 1) fun d hd => ?_).wk ?_ (by decide)
    · obtain ⟨x, hx, rfl⟩ := List.mem_map.mp hd
      exact hd_pd (ok.hd x hx) (by have := wo.l1; omega) nm
    · rw [List.length_map]
      have := ok.h1
      omega
  have w : PD P.wd 1000 1 := by
    have h1 := wo.l0
    have h2 := wo.l1
    have h3 := wo.p0
    have h4 := wo.p1
    have h5 := wo.k0
    have h6 := wo.k1
    have h7 := wo.t0
    have h8 := wo.t1
    refine (pd_tup (pds_cons (pd_int (i := P.l) ?_ ?_) (pds_cons (pd_int (i := P.p) ?_ ?_) (pds_cons (pd_int (i := P.k) ?_ ?_) (pds_cons (pd_int (i := P.t) ?_ ?_) pds_nil))))).wk (by decide) (by decide) <;> omega
  exact (pd_tup (pds_cons w (pds_cons (pd_tup g) (pds_cons (pd_tup h) pds_nil)))).wk (by decide) (by decide)
theorem PlOk.gn {P : Pl} {dep : Str → Nat} (ok : PlOk P dep) : ∀ a ∈ P.gs.map Gr.nm, NameS a := fun a ha => by
  obtain ⟨x, hx, rfl⟩ := List.mem_map.mp ha
  exact (ok.gr.ok x hx).nm
theorem PlOk.r {P : Pl} {dep : Str → Nat} (ok : PlOk P dep) : PlR P.gs dep P.hs := ⟨ok.gr, ok.g1, by have := ok.h1; omega, fun h hh => (ok.hd h hh).gr⟩
theorem pd_txT {ss : List Str} (h : ∀ s ∈ ss, NameS s) (l : ss.length ≤ 100) : PD (.tup (ss.map D.str)) 10000 1 := by
  refine (pd_tup ((pds_all (n := 82) (m := 0) fun d hd => ?_).wk (n' := 9000) ?_ (Nat.le_refl _))).wk (by decide) (by decide)
  · obtain ⟨s, hs, rfl⟩ := List.mem_map.mp hd
    exact pd_str (h s hs)
  · rw [List.length_map]
    omega
theorem nm_inj {α : Type} {f : α → Str} {l : List α} (nd : (l.map f).Nodup) {a b : α} (ha : a ∈ l) (hb : b ∈ l) (e : f a = f b) : a = b := by
  induction l with
  | nil => cases ha
  | cons y l ih =>
    rw [List.map_cons, List.nodup_cons] at nd
    rcases List.mem_cons.mp ha with z | z <;> rcases List.mem_cons.mp hb with y1 | y1
    · rw [z, y1]
    · exact (nd.1 (by rw [← z, e]; exact List.mem_map.mpr ⟨b, y1, rfl⟩)).elim
    · exact (nd.1 (by rw [← y1, ← e]; exact List.mem_map.mpr ⟨a, z, rfl⟩)).elim
    · exact ih nd.2 z y1
theorem lt_nodup {l : List Str} (h : l.Pairwise ltS) : l.Nodup := h.imp fun h z => by
  rw [z] at h
  exact ltS_irrefl _ h
theorem sort_lt {l : List Str} (h : l.Pairwise ltS) : sortS l = l := lt_eq (sortS_lt (lt_nodup h)) h fun _ => (sortS_perm l).mem_iff
section
variable {gs : List Gr} {dep : Str → Nat} {hs : List Hd} {s : Str}
def bnS (gs : List Gr) (dep : Str → Nat) (hs : List Hd) (s : Str) : List Str := (hs.filter fun h => decide (s ∈ line gs dep h.gr)).map Hd.nm
theorem bn_is : bn gs dep hs s = (bnS gs dep hs s).map D.str := by
  unfold bn bnS
  rw [List.filter_map, List.map_map, List.map_map]
  rfl
theorem mem_bnS (nd : (hs.map Hd.nm).Nodup) {h : Hd} (hh : h ∈ hs) : h.nm ∈ bnS gs dep hs s ↔ s ∈ line gs dep h.gr := by
  constructor
  · intro z
    obtain ⟨y, hy, e⟩ := List.mem_map.mp z
    have hy' := List.mem_filter.mp hy
    rw [← nm_inj nd hy'.1 hh e]
    exact of_decide_eq_true hy'.2
  · intro z
    exact List.mem_map.mpr ⟨h, List.mem_filter.mpr ⟨hh, decide_eq_true z⟩, rfl⟩
theorem bnS_lt (h : (hs.map Hd.nm).Pairwise ltS) : (bnS gs dep hs s).Pairwise ltS := h.sublist (List.filter_sublist.map _)
theorem bnS_len : (bnS gs dep hs s).length ≤ hs.length := by
  unfold bnS
  rw [List.length_map]
  exact List.length_filter_le ..
theorem bnS_sub {t : Str} (h : t ∈ bnS gs dep hs s) : t ∈ hs.map Hd.nm := by
  obtain ⟨y, hy, e⟩ := List.mem_map.mp h
  exact List.mem_map.mpr ⟨y, (List.mem_filter.mp hy).1, e⟩
theorem self_line (ok : GrsOk gs dep) {x : Gr} (hx : x ∈ gs) : x.nm ∈ line gs dep x.nm := by
  cases e : x.ab with
  | none =>
    rw [line_none ok hx e]
    exact List.mem_singleton.mpr rfl
  | some a =>
    rw [line_some ok hx e]
    exact List.mem_cons_self ..
theorem gb_is : gb gs dep s = (gs.map Gr.nm).filter fun t => decide (s ∈ line gs dep t) := by
  unfold gb
  rw [List.filter_map]
  rfl
def below (gs : List Gr) (dep : Str → Nat) (s : Str) : List Str := (gs.map Gr.nm).filter fun t => !decide (t = s) && decide (s ∈ line gs dep t)
theorem lone_is (ok : GrsOk gs dep) {x : Gr} (hx : x ∈ gs) : lone gs dep x = (decide ((line gs dep x.nm).length = 1) && decide (below gs dep x.nm = [])) := by
  have e1 : x.ab.isNone = decide ((line gs dep x.nm).length = 1) := by
    rw [line_len ok _ (List.mem_map.mpr ⟨x, hx, rfl⟩)]
    cases e : x.ab with
    | none => rw [ok.no x hx e]; rfl
    | some a =>
      have := ok.ab x hx a e
      have d := dep4 ok this.1
      rw [decide_eq_false (by omega)]
      rfl
  have e2 : decide (gb gs dep x.nm = [x.nm]) = decide (below gs dep x.nm = []) := by
    have nd : (gb gs dep x.nm).Nodup := by
      rw [gb_is]
      exact ok.nd.sublist List.filter_sublist
    have hb : below gs dep x.nm = (gb gs dep x.nm).filter fun t => !decide (t = x.nm) := by
      unfold below
      rw [gb_is, List.filter_filter]
    have hm : x.nm ∈ gb gs dep x.nm := List.mem_map.mpr ⟨x, List.mem_filter.mpr ⟨hx, decide_eq_true (self_line ok hx)⟩, rfl⟩
    rw [hb]
    refine decide_eq_decide.mpr ⟨fun z => ?_, fun z => ?_⟩
    · rw [z]
      simp
    · have all : ∀ t ∈ gb gs dep x.nm, t = x.nm := fun t ht => by
        have := List.filter_eq_nil_iff.mp z t ht
        simpa using this
      revert nd hm all
      generalize gb gs dep x.nm = l
      intro nd hm all
      cases l with
      | nil => cases hm
      | cons a l =>
        have ha := all a (List.mem_cons_self ..)
        cases l with
        | nil => rw [ha]
        | cons b l =>
          have hb := all b (List.mem_cons_of_mem _ (List.mem_cons_self ..))
          rw [List.nodup_cons] at nd
          exact (nd.1 (by rw [ha, hb]; exact List.mem_cons_self ..)).elim
  unfold lone
  rw [e1, e2]
end
end LK
end
section
namespace LK
open PySem L2 FL
/-- is_whole(thing): 0 thing -/
noncomputable def X_is_whole : XS := (xRet (xV (xAndV (xOp gIsi (xVar 0) (xC (.ty "int"))) (xNotV (xOp gIsi (xVar 0) (xC (.ty "bool")))))))
noncomputable def F_is_whole : VF := runF 1 [] X_is_whole
/-- is_between(thing, least, most): 0 thing, 1 least, 2 most -/
noncomputable def X_is_between : XS := (xRet (xV (xAndV (xP (xFn 1 F_is_whole [.ex (xV (xVar 0))])) (xChain gLe gLe (xVar 1) (xVar 0) (xVar 2)))))
noncomputable def F_is_between : VF := runF 3 [] X_is_between
/-- is_name(thing): 0 thing, 1 sign -/
noncomputable def X_is_name : XS := (xSeq (xIfS (xOr (xNot (xB (xOp gIsi (xVar 0) (xC (.ty "str"))))) (xNot (xB (xChain gLe gLe (xC (.int 1)) (xUn gLen (xVar 0)) (xC (.int 8))))))
            (xRet (xV (xC (.bl false))))
            xNext)
        (xRet (xV (xUn gAll (xD (xLc (iS (xVar 0)) (yC (.one 1)) xYes (xOp (gIn false) (xVar 1) (xC (.str "abcdefghijklmnopqrstuvwxyz"))) [1]))))))
noncomputable def F_is_name : VF := runF 2 [] X_is_name
/-- are_ways(thing): 0 thing, 1 lanes, 2 part, 3 keep, 4 turn -/
noncomputable def X_are_ways : XS := (xSeq (xIfS (xOr (xNot (xB (xOp gIsi (xVar 0) (xC (.ty "tuple"))))) (xB (xOp gNe (xUn gLen (xVar 0)) (xC (.int 4)))))
            (xRet (xV (xC (.bl false))))
            xNext)
        (xSeq (xAsg (xVar 0) (yT 4 (ysCons (yN 1) (ysCons (yN 2) (ysCons (yN 3) (ysCons (yN 4) ysNil))))))
        (xSeq (xIfS (xOr (xNot (xB (xP (xFn 3 F_is_between [.ex (xV (xVar 1)), .ex (xV (xC (.int 1))), .ex (xV (xC (.int 4)))])))) (xNot (xB (xP (xFn 3 F_is_between [.ex (xV (xVar 2)), .ex (xV (xC (.int 1))), .ex (xV (xC (.int 100)))])))))
            (xRet (xV (xC (.bl false))))
            xNext)
        (xRet (xV (xAndV (xP (xFn 3 F_is_between [.ex (xV (xVar 3)), .ex (xV (xC (.int 0))), .ex (xV (xOp gSub (xVar 2) (xC (.int 1))))])) (xP (xFn 3 F_is_between [.ex (xV (xVar 4)), .ex (xV (xC (.int 1))), .ex (xV (xC (.int 100)))]))))))))
noncomputable def F_are_ways : VF := runF 5 [] X_are_ways
/-- is_time(quota, burst): 0 quota, 1 burst -/
noncomputable def X_is_time : XS := (xRet (xV (xAndV (xP (xFn 3 F_is_between [.ex (xV (xVar 0)), .ex (xV (xC (.int 1))), .ex (xV (xC (.int 1000)))])) (xP (xFn 3 F_is_between [.ex (xV (xVar 1)), .ex (xV (xC (.int 0))), .ex (xV (xC (.int 1000)))])))))
noncomputable def F_is_time : VF := runF 2 [] X_is_time
/-- is_group(thing): 0 thing, 1 name, 2 above, 3 quota, 4 period, 5 burst -/
noncomputable def X_is_group : XS := (xSeq (xIfS (xOr (xNot (xB (xOp gIsi (xVar 0) (xC (.ty "tuple"))))) (xOr (xB (xOp gNe (xUn gLen (xVar 0)) (xC (.int 5)))) (xNot (xB (xP (xFn 1 F_is_name [.ex (xV (xOp gIx (xVar 0) (xC (.int 0))))]))))))
            (xRet (xV (xC (.bl false))))
            xNext)
        (xSeq (xAsg (xVar 0) (yT 5 (ysCons (yN 1) (ysCons (yN 2) (ysCons (yN 3) (ysCons (yN 4) (ysCons (yN 5) ysNil)))))))
        (xSeq (xIfS (xAnd (xB (xOp gNotN (xVar 2) (xC .non))) (xOr (xNot (xB (xP (xFn 1 F_is_name [.ex (xV (xVar 2))])))) (xB (xOp gEq (xVar 2) (xVar 1)))))
            (xRet (xV (xC (.bl false))))
            xNext)
        (xRet (xV (xAndV (xP (xFn 2 F_is_time [.ex (xV (xVar 3)), .ex (xV (xVar 5))])) (xP (xFn 3 F_is_between [.ex (xV (xVar 4)), .ex (xV (xC (.int 1))), .ex (xV (xC (.int 1000)))]))))))))
noncomputable def F_is_group : VF := runF 6 [] X_is_group
/-- is_hand(lanes, thing): 0 lanes, 1 thing -/
noncomputable def X_is_hand : XS := (xSeq (xIfS (xOr (xNot (xB (xOp gIsi (xVar 1) (xC (.ty "tuple"))))) (xOr (xB (xOp gNe (xUn gLen (xVar 1)) (xC (.int 4)))) (xOr (xNot (xB (xP (xFn 1 F_is_name [.ex (xV (xOp gIx (xVar 1) (xC (.int 0))))])))) (xNot (xB (xP (xFn 1 F_is_name [.ex (xV (xOp gIx (xVar 1) (xC (.int 1))))])))))))
            (xRet (xV (xC (.bl false))))
            xNext)
        (xRet (xV (xAndV (xP (xFn 3 F_is_between [.ex (xV (xOp gIx (xVar 1) (xC (.int 2)))), .ex (xV (xC (.int 1))), .ex (xV (xC (.int 100)))])) (xP (xFn 3 F_is_between [.ex (xV (xOp gIx (xVar 1) (xC (.int 3)))), .ex (xV (xC (.int 0))), .ex (xV (xOp gSub (xVar 0) (xC (.int 1))))]))))))
noncomputable def F_is_hand : VF := runF 2 [] X_is_hand
/-- are_rising(things): 0 things, 1 one, 2 other -/
noncomputable def X_are_rising : XS := (xRet (xV (xUn gAll (xD (xLc (iZp false (iT (xSl (xVar 0) xNo (xPt (xUn gNeg (xC (.int 1)))))) (iT (xSl (xVar 0) (xPt (xC (.int 1))) xNo))) (yC (.many [1, 2])) xYes (xOp gLt (xOp gIx (xVar 1) (xC (.int 0))) (xOp gIx (xVar 2) (xC (.int 0)))) [1, 2])))))
noncomputable def F_are_rising : VF := runF 3 [] X_are_rising
/-- are_lines_short(groups): 0 groups, 1 above, 2 group, 3 name -/
noncomputable def X_are_lines_short : XS := (xSeq (xAsgF (xDc (iT (xVar 0)) (yC (.one 2)) xYes (xOp gIx (xVar 2) (xC (.int 0))) (xOp gIx (xVar 2) (xC (.int 1))) [2]) 1)
        (xRet (xV (xUn gAll (xD (xLockF 1 (xLc (iK 1) (yC (.one 3)) xYes (xOp gLe (xUn gLen (xD (xFn 2 F_line_up [.rf 1, .ex (xV (xVar 3))]))) (xC (.int 4))) [3])))))))
noncomputable def F_are_lines_short : VF := runF 4 [] X_are_lines_short
/-- are_groups(thing): 0 thing, 1 names, 2 group, 3 one -/
noncomputable def X_are_groups : XS := (xSeq (xIfS (xOr (xNot (xB (xOp gIsi (xVar 0) (xC (.ty "tuple"))))) (xOr (xNot (xB (xChain gLe gLe (xC (.int 1)) (xUn gLen (xVar 0)) (xC (.int 8))))) (xNot (xB (xUn gAll (xD (xLc (iT (xVar 0)) (yC (.one 3)) xYes (xP (xFn 1 F_is_group [.ex (xV (xVar 3))])) [3])))))))
            (xRet (xV (xC (.bl false))))
            xNext)
        (xSeq (xAsgF (xLc (iT (xVar 0)) (yC (.one 2)) xYes (xOp gIx (xVar 2) (xC (.int 0))) [2]) 1)
        (xSeq (xIfS (xOr (xNot (xB (xP (xFn 1 F_are_rising [.ex (xV (xVar 0))])))) (xNot (xB (xUn gAll (xD (xLc (iT (xVar 0)) (yC (.one 2)) xYes (xOrV (xOp gIsN (xOp gIx (xVar 2) (xC (.int 1))) (xC .non)) (xOp (gIn false) (xOp gIx (xVar 2) (xC (.int 1))) (xRd 1))) [2]))))))
            (xRet (xV (xC (.bl false))))
            xNext)
        (xRet (xFn 1 F_are_lines_short [.ex (xV (xVar 0))])))))
noncomputable def F_are_groups : VF := runF 4 [] X_are_groups
/-- are_hands(lanes, groups, thing): 0 lanes, 1 groups, 2 thing, 3 names, 4 group, 5 hand, 6 one -/
noncomputable def X_are_hands : XS := (xSeq (xIfS (xOr (xNot (xB (xOp gIsi (xVar 2) (xC (.ty "tuple"))))) (xOr (xB (xOp gGt (xUn gLen (xVar 2)) (xC (.int 12)))) (xNot (xB (xUn gAll (xD (xLc (iT (xVar 2)) (yC (.one 6)) xYes (xP (xFn 2 F_is_hand [.ex (xV (xVar 0)), .ex (xV (xVar 6))])) [6])))))))
            (xRet (xV (xC (.bl false))))
            xNext)
        (xSeq (xAsgF (xLc (iT (xVar 1)) (yC (.one 4)) xYes (xOp gIx (xVar 4) (xC (.int 0))) [4]) 3)
        (xRet (xV (xAndV (xP (xFn 1 F_are_rising [.ex (xV (xVar 2))])) (xUn gAll (xD (xLc (iT (xVar 2)) (yC (.one 5)) xYes (xOp (gIn false) (xOp gIx (xVar 5) (xC (.int 1))) (xRd 3)) [5]))))))))
noncomputable def F_are_hands : VF := runF 7 [] X_are_hands
/-- is_plan(thing): 0 thing, 1 ways, 2 groups, 3 hands -/
noncomputable def X_is_plan : XS := (xSeq (xIfS (xOr (xNot (xB (xOp gIsi (xVar 0) (xC (.ty "tuple"))))) (xB (xOp gNe (xUn gLen (xVar 0)) (xC (.int 3)))))
            (xRet (xV (xC (.bl false))))
            xNext)
        (xSeq (xAsg (xVar 0) (yT 3 (ysCons (yN 1) (ysCons (yN 2) (ysCons (yN 3) ysNil)))))
        (xRet (xV (xAndV (xP (xFn 1 F_are_ways [.ex (xV (xVar 1))])) (xAndV (xP (xFn 1 F_are_groups [.ex (xV (xVar 2))])) (xP (xFn 3 F_are_hands [.ex (xV (xOp gIx (xVar 1) (xC (.int 0)))), .ex (xV (xVar 2)), .ex (xV (xVar 3))]))))))))
noncomputable def F_is_plan : VF := runF 4 [] X_is_plan
end LK
end
section
namespace LK
open PySem L2 FL
local macro_rules | `(tactic| walk_at "vside") => `(tactic| first | assumption | omega | decide | (refine mulR ?_; constructor <;> omega) | (refine mulL ?_; constructor <;> omega) | (refine divOk ?_ ?_ <;> omega) | (refine ⟨?_, ?_, ?_⟩ <;> decide) | (refine ⟨?_, ?_⟩ <;> omega) | (simp only [List.length_append, List.length_cons, List.length_nil, List.length_map, List.length_range]; omega))
local macro_rules | `(tactic| walk_at "vs") => `(tactic| simp -implicitDefEqProofs only [e_listN, e_popAt, e_get1, e_dictN, g_get1S, xSortSet, e_iZp, g_isB, g_notB, g_revT, g_revL, e_O, e_pv, e_ls, e_qs, e_bl, e_nt, e_T, e_F, e_CT, e_var, e_rd, e_mv, e_c, e_xV, e_xD, e_xP, e_op, e_opF, e_opP, e_un, e_b, e_yes, e_and, e_or, e_not, e_if, e_andV, e_orV, e_notV, e_chain, e_nil, e_cons, e_tup, e_lst, e_lstN, e_dnew, e_no, e_pt, e_sl, e_slF, e_slP, e_slN, e_lsv, e_get, e_app,
  e_next, e_break, e_cont, e_seq, e_drop, e_dropF, e_ret, e_retN, e_asg, e_yN, e_ysNil, e_ysCons, e_yT, e_asgF, e_par, e_hd, e_aug, e_setL, e_dput, e_kS, e_kI, e_fn, e_arNil, e_arRf, e_arEx, e_resN, e_resL, e_resR, e_bkN, e_bkL, e_bkR, e_run, e_oN, e_oC, e_for, e_iL, e_iT, e_some, e_someE, e_iP, e_iK, e_iF, e_iR1, e_iR2, e_iS, e_lc, e_dc, e_yC1, e_yCm, e_sa0, e_sa, e_wi0, e_wi, e_re0, e_re, e_lockS, e_lockF, e_items, e_iEn, e_iEnP, e_yStar, e_asgS, g_rep,
  g_addI, g_addL, g_addT, g_addS, g_subI, g_mulI, g_divI, g_modI, g_powI, g_negI, g_ltI, g_ltS, g_leI, g_gtI, g_geI, g_eqI, g_eqS, g_eqB, g_neI, g_neS, g_neB, g_isN, g_notN, isN1, isN2, isN3, g_ixT, g_ixL, g_ixZ, g_lenT, g_lenL, g_lenZ, g_min, g_max, g_intB, g_intI, g_tupL, g_tupT, g_lstT, g_lstL, g_cutT, g_cutL, g_cutZ, g_dgS, g_dgI, g_getS, g_getI, g_getN, g_diS, isS_d, vo_v, vo_l, vo_q, vo_f, vw_v, vw_l, vw_q, vw_f, at0, at1, at2, at3, at4, ix0, ix1, ix2,
  refsA, List.nodup_cons, List.mem_cons, List.not_mem_nil, List.nodup_nil, not_false_eq_true, and_true, true_and, or_false, false_or, and_self, not_true_eq_false, List.length_cons, List.length_nil, List.map_cons, List.map_nil, List.replicate, List.cons_append, List.nil_append, List.set_cons_zero, List.set_cons_succ, List.getElem?_cons_zero, List.getElem?_cons_succ, List.tail_cons, Nat.reduceAdd, Nat.reduceSub, Nat.reduceLeDiff, Nat.reduceEqDiff, Int.reduceLT, Int.reduceLE, Int.reduceNeg, Int.reduceEq, decide_true, decide_false, Bool.not_true, Bool.not_false, Nat.zero_le, Option.some.injEq, reduceCtorEq, Nat.zero_add])
local macro_rules | `(tactic| walk_at "vc") => `(tactic| (repeat (refine wc ?c ?_; (case c => walk_at "vside"))))
local macro_rules | `(tactic| walk_at "vgo") => `(tactic| (walk_at "vs"; walk_at "vc"))
local macro_rules | `(tactic| walk_at "vi") => `(tactic| ((try walk_at "vgo"); rw [e_ifS]; walk_at "vgo"))

/-! ### of what kind a thing is -/
structure Kn (d : D) : Prop where
  ty : (tyN d).isSome = true
  st : ∀ s, d = .str s → s.length ≤ 16777216
def isIntD : D → Bool
  | .int _ => true
  | .bl _ => true
  | _ => false
def isBlD : D → Bool
  | .bl _ => true
  | _ => false
def isStrD : D → Bool
  | .str _ => true
  | _ => false
def isTupD : D → Bool
  | .tup _ => true
  | _ => false
theorem isi_int {d : D} (h : Kn d) : gIsi d (.ty "int") = some (.bl (isIntD d)) := by
  have := h.ty
  cases d <;> first | rfl | cases this
theorem isi_bl {d : D} (h : Kn d) : gIsi d (.ty "bool") = some (.bl (isBlD d)) := by
  have := h.ty
  cases d <;> first | rfl | cases this
theorem isi_str {d : D} (h : Kn d) : gIsi d (.ty "str") = some (.bl (isStrD d)) := by
  have := h.ty
  cases d <;> first | rfl | cases this
theorem isi_tup {d : D} (h : Kn d) : gIsi d (.ty "tuple") = some (.bl (isTupD d)) := by
  have := h.ty
  cases d <;> first | rfl | cases this
theorem kn_int {i : Int} : Kn (.int i) := ⟨rfl, fun s e => (by cases e)⟩
theorem kn_non : Kn .non := ⟨rfl, fun s e => (by cases e)⟩
theorem kn_bl {b : Bool} : Kn (.bl b) := ⟨rfl, fun s e => (by cases e)⟩
theorem kn_tup {ds : List D} : Kn (.tup ds) := ⟨rfl, fun s e => (by cases e)⟩
theorem kn_str {s : Str} (h : s.length ≤ 16777216) : Kn (.str s) := ⟨rfl, fun s e => (by cases e; exact h)⟩
def wholeB : D → Bool
  | .int _ => true
  | _ => false
section
variable {d : D} {Q : W → List W → Prop}
theorem w_is_whole (h : Kn d) (q : Q (.v (.bl (wholeB d))) [.v d]) : WE (F_is_whole [.v d]) (q := ⟨Q⟩) := by
  unfold F_is_whole X_is_whole
  walk_at "vs"
  rw [isi_int h]
  walk_at "vs"
  refine wib (fun c => ?_) (fun c => ?_)
  · walk_at "vs"
    rw [isi_bl h]
    walk_at "vs"
    have e : (!isBlD d) = wholeB d := by cases d <;> first | rfl | cases c
    rw [e]
    exact q
  · have e : wholeB d = false := by cases d <;> first | rfl | cases c
    rw [e] at q
    exact q
def betwB (lo hi : Int) : D → Bool
  | .int i => decide (lo ≤ i) && decide (i ≤ hi)
  | _ => false
theorem w_is_between {lo hi : Int} (h : Kn d) (q : Q (.v (.bl (betwB lo hi d))) [.v d, .v (.int lo), .v (.int hi)]) : WE (F_is_between [.v d, .v (.int lo), .v (.int hi)]) (q := ⟨Q⟩) := by
  unfold F_is_between X_is_between
  walk_at "vs"
  refine w_is_whole h ?_
  walk_at "vs"
  cases hw : wholeB d with
  | true =>
    cases d <;> (try cases hw)
    rename_i i
    walk_at "vs"
    have e : betwB lo hi (.int i) = (decide (lo ≤ i) && decide (i ≤ hi)) := rfl
    rw [e] at q
    refine wi (fun c => ?_) (fun c => ?_)
    · walk_at "vs"
      rw [decide_eq_true c] at q
      exact q
    · rw [decide_eq_false c] at q
      exact q
  | false =>
    have e : betwB lo hi d = false := by cases d <;> first | rfl | cases hw
    rw [e] at q
    walk_at "vs"
    exact q
/-! ### names -/
def nameB : D → Bool
  | .str s => decide (1 ≤ s.length) && decide (s.length ≤ 8) && s.cps.toList.all fun c => decide (c ∈ abc.cps.toList)
  | _ => false
theorem abc_mem {c : Nat} : c ∈ abc.cps.toList ↔ 97 ≤ c ∧ c ≤ 122 := by
  rw [abc_is, List.mem_range']
  constructor
  · rintro ⟨i, hi, rfl⟩
    omega
  · intro h
    exact ⟨c - 97, by omega, by omega⟩
theorem nameB_iff {s : Str} : nameB (.str s) = true ↔ NameS s := by
  show (decide (1 ≤ s.length) && decide (s.length ≤ 8) && s.cps.toList.all fun c => decide (c ∈ abc.cps.toList)) = true ↔ _
  rw [Bool.and_eq_true, Bool.and_eq_true, decide_eq_true_iff, decide_eq_true_iff, List.all_eq_true]
  constructor
  · rintro ⟨⟨h1, h2⟩, h3⟩
    exact ⟨h1, h2, fun c hc => abc_mem.mp (of_decide_eq_true (h3 c hc))⟩
  · intro h
    exact ⟨⟨h.lo, h.hi⟩, fun c hc => decide_eq_true (abc_mem.mpr (h.ab c hc))⟩
theorem nameB_str (h : nameB d = true) : ∃ s, d = .str s ∧ NameS s := by
  cases d <;> (try cases h)
  exact ⟨_, rfl, nameB_iff.mp h⟩
theorem g_inC {c : Nat} : gIn false (.str ⟨#[c]⟩) (.str ("abcdefghijklmnopqrstuvwxyz" : Str)) = some (.bl (decide (c ∈ abc.cps.toList))) := rfl
def fInC : D → D
  | .str z => match z.cps.toList with
    | [c] => .bl (decide (c ∈ abc.cps.toList))
    | _ => .non
  | _ => .non
theorem g_allB {ns : List Bool} : gAll (.lst (ns.map D.bl)) = some (.bl (ns.all id)) := by
  show (asBls (ns.map D.bl)).map _ = _
  rw [asBls_of]
  rfl
theorem w_is_name (h : Kn d) (q : Q (.v (.bl (nameB d))) [.v d]) : WE (F_is_name [.v d]) (q := ⟨Q⟩) := by
  unfold F_is_name X_is_name
  walk_at "vi"
  rw [isi_str h]
  walk_at "vs"
  cases hs : isStrD d with
  | false =>
    have e : nameB d = false := by cases d <;> first | rfl | cases hs
    rw [e] at q
    walk_at "vs"
    exact q
  | true =>
    cases d <;> (try cases hs)
    rename_i s
    have e : nameB (.str s) = (decide (1 ≤ s.length) && decide (s.length ≤ 8) && s.cps.toList.all fun c => decide (c ∈ abc.cps.toList)) := rfl
    walk_at "vs"
    rw [g_lenS]
    refine wc (h.st s rfl) ?_
    walk_at "vs"
    refine wi (fun c => ?_) (fun c => ?_)
    · walk_at "vs"
      refine win (fun c2 => ?_) (fun c2 => ?_)
      · walk_at "vs"
        rw [e, decide_eq_false (by omega : ¬ s.length ≤ 8), Bool.and_false, Bool.false_and] at q
        exact q
      · rw [e, decide_eq_true (by omega), decide_eq_true (by omega : s.length ≤ 8), Bool.true_and, Bool.true_and] at q
        walk_at "vs"
        have sl : (signsD s).length = s.length := by
          unfold signsD
          rw [List.length_map]
          exact Array.length_toList
        refine wc (by rw [sl]; omega) ?_
        refine lc_pure (fun _ => true) fInC trivial ?_ ?_
        · intro d hd
          obtain ⟨c, hc, rfl⟩ := List.mem_map.mp hd
          walk_at "vs"
          rw [g_inC]
          walk_at "vs"
          exact rfl
        · have em : (signsD s).map fInC = (s.cps.toList.map fun c => decide (c ∈ abc.cps.toList)).map D.bl := by
            unfold signsD
            rw [List.map_map, List.map_map]
            rfl
          rw [filter_yes, em]
          walk_at "vs"
          rw [g_allB, List.all_map]
          walk_at "vs"
          exact q
    · walk_at "vs"
      rw [e, decide_eq_false (by omega : ¬ 1 ≤ s.length), Bool.false_and, Bool.false_and] at q
      exact q
/-! ### rows -/
def strD : D → Str
  | .str s => s
  | _ => ""
structure Kn1 (d : D) : Prop extends Kn d where
  el : ∀ ds, d = .tup ds → ∀ e ∈ ds, Kn e
theorem notTup {d : D} (h : isTupD d = false) (f : D → Bool) (hf : ∀ d, isTupD d = false → f d = false) : f d = false := hf d h
def keepB (k : D) : D → Bool
  | .int i => betwB 0 (i - 1) k
  | _ => false
def waysB : D → Bool
  | .tup [l, p, k, t] => betwB 1 4 l && betwB 1 100 p && keepB k p && betwB 1 100 t
  | _ => false
theorem betw_int {lo hi : Int} (h : betwB lo hi d = true) : ∃ i, d = .int i ∧ lo ≤ i ∧ i ≤ hi := by
  cases d <;> (try cases h)
  rename_i i
  have h' : (decide (lo ≤ i) && decide (i ≤ hi)) = true := h
  rw [Bool.and_eq_true, decide_eq_true_iff, decide_eq_true_iff] at h'
  exact ⟨i, rfl, h'⟩
theorem w_are_ways (h : Kn1 d) (q : Q (.v (.bl (waysB d))) [.v d]) : WE (F_are_ways [.v d]) (q := ⟨Q⟩) := by
  unfold F_are_ways X_are_ways
  walk_at "vi"
  rw [isi_tup h.toKn]
  walk_at "vs"
  cases ht : isTupD d with
  | false =>
    have e : waysB d = false := by cases d <;> first | rfl | cases ht
    rw [e] at q
    walk_at "vs"
    exact q
  | true =>
    cases d <;> (try cases ht)
    rename_i ds
    walk_at "vs"
    refine win (fun c => ?_) (fun c => ?_)
    · have e : waysB (.tup ds) = false := by
        unfold waysB
        split
        · rename_i e0
          cases e0
          exact (c rfl).elim
        · rfl
      rw [e] at q
      walk_at "vs"
      exact q
    · obtain ⟨l, p, k, t, rfl⟩ : ∃ l p k t, ds = [l, p, k, t] := by
        match ds, c with
        | [l, p, k, t], _ => exact ⟨l, p, k, t, rfl⟩
        | [], c => exact absurd c (by simp)
        | [_], c => exact absurd c (by simp)
        | [_, _], c => exact absurd c (by simp)
        | [_, _, _], c => exact absurd c (by simp)
        | _ :: _ :: _ :: _ :: _ :: r, c => exact absurd c (by simp; omega)
      have kl := h.el _ rfl l (by simp)
      have kp := h.el _ rfl p (by simp)
      have kk := h.el _ rfl k (by simp)
      have kt := h.el _ rfl t (by simp)
      have e : waysB (.tup [l, p, k, t]) = (betwB 1 4 l && betwB 1 100 p && keepB k p && betwB 1 100 t) := rfl
      rw [e] at q
      walk_at "vi"
      refine w_is_between kl ?_
      walk_at "vs"
      cases c1 : betwB 1 4 l with
      | false =>
        rw [c1, Bool.false_and, Bool.false_and, Bool.false_and] at q
        walk_at "vs"
        exact q
      | true =>
        rw [c1, Bool.true_and] at q
        walk_at "vs"
        refine w_is_between kp ?_
        walk_at "vs"
        cases c2 : betwB 1 100 p with
        | false =>
          rw [c2, Bool.false_and, Bool.false_and] at q
          walk_at "vs"
          exact q
        | true =>
          rw [c2, Bool.true_and] at q
          obtain ⟨i, rfl, _⟩ := betw_int c2
          walk_at "vs"
          refine w_is_between kk ?_
          walk_at "vs"
          cases c3 : betwB 0 (i - 1) k with
          | false =>
            have q' : Q (.v (.bl (betwB 0 (i - 1) k && betwB 1 100 t))) [.v (.tup [l, .int i, k, t])] := q
            rw [c3, Bool.false_and] at q'
            walk_at "vs"
            exact q'
          | true =>
            have q' : Q (.v (.bl (betwB 0 (i - 1) k && betwB 1 100 t))) [.v (.tup [l, .int i, k, t])] := q
            rw [c3, Bool.true_and] at q'
            walk_at "vs"
            refine w_is_between kt ?_
            walk_at "vs"
            exact q'
def timeB (x y : D) : Bool := betwB 1 1000 x && betwB 0 1000 y
theorem w_is_time {x y : D} (hx : Kn x) (hy : Kn y) (q : Q (.v (.bl (timeB x y))) [.v x, .v y]) : WE (F_is_time [.v x, .v y]) (q := ⟨Q⟩) := by
  unfold F_is_time X_is_time
  unfold timeB at q
  walk_at "vs"
  refine w_is_between hx ?_
  walk_at "vs"
  cases c : betwB 1 1000 x with
  | false =>
    rw [c, Bool.false_and] at q
    walk_at "vs"
    exact q
  | true =>
    rw [c, Bool.true_and] at q
    walk_at "vs"
    refine w_is_between hy ?_
    walk_at "vs"
    exact q
def groupB : D → Bool
  | .tup [n, a, q, p, b] => nameB n && (isNon a || (nameB a && !decide (strD a = strD n))) && (timeB q b && betwB 1 1000 p)
  | _ => false
theorem five {ds : List D} (c : ((ds.length : Nat) : Int) = 5) : ∃ n a q p b, ds = [n, a, q, p, b] := by
  match ds, c with
  | [n, a, q, p, b], _ => exact ⟨n, a, q, p, b, rfl⟩
  | [], c => exact absurd c (by simp)
  | [_], c => exact absurd c (by simp)
  | [_, _], c => exact absurd c (by simp)
  | [_, _, _], c => exact absurd c (by simp)
  | [_, _, _, _], c => exact absurd c (by simp)
  | _ :: _ :: _ :: _ :: _ :: _ :: r, c => exact absurd c (by simp; omega)
theorem four {ds : List D} (c : ((ds.length : Nat) : Int) = 4) : ∃ n a q p, ds = [n, a, q, p] := by
  match ds, c with
  | [n, a, q, p], _ => exact ⟨n, a, q, p, rfl⟩
  | [], c => exact absurd c (by simp)
  | [_], c => exact absurd c (by simp)
  | [_, _], c => exact absurd c (by simp)
  | [_, _, _], c => exact absurd c (by simp)
  | _ :: _ :: _ :: _ :: _ :: r, c => exact absurd c (by simp; omega)
theorem w_is_group (h : Kn1 d) (q : Q (.v (.bl (groupB d))) [.v d]) : WE (F_is_group [.v d]) (q := ⟨Q⟩) := by
  unfold F_is_group X_is_group
  walk_at "vi"
  rw [isi_tup h.toKn]
  walk_at "vs"
  cases ht : isTupD d with
  | false =>
    have e : groupB d = false := by cases d <;> first | rfl | cases ht
    rw [e] at q
    walk_at "vs"
    exact q
  | true =>
    cases d <;> (try cases ht)
    rename_i ds
    walk_at "vs"
    refine win (fun c => ?_) (fun c => ?_)
    · have e : groupB (.tup ds) = false := by
        unfold groupB
        split
        · rename_i e0
          cases e0
          exact (c rfl).elim
        · rfl
      rw [e] at q
      walk_at "vs"
      exact q
    · obtain ⟨n, a, u, p, b, rfl⟩ := five c
      have kn := h.el _ rfl n (by simp)
      have ka := h.el _ rfl a (by simp)
      have ku := h.el _ rfl u (by simp)
      have kp := h.el _ rfl p (by simp)
      have kb := h.el _ rfl b (by simp)
      have e : groupB (.tup [n, a, u, p, b]) = (nameB n && (isNon a || (nameB a && !decide (strD a = strD n))) && (timeB u b && betwB 1 1000 p)) := rfl
      rw [e] at q
      walk_at "vs"
      refine w_is_name kn ?_
      walk_at "vs"
      cases c1 : nameB n with
      | false =>
        rw [c1, Bool.false_and, Bool.false_and] at q
        walk_at "vs"
        exact q
      | true =>
        rw [c1, Bool.true_and] at q
        obtain ⟨sn, rfl, oks⟩ := nameB_str c1
        have q' : Q (.v (.bl ((isNon a || (nameB a && !decide (strD a = sn))) && (timeB u b && betwB 1 1000 p)))) [.v (.tup [.str sn, a, u, p, b])] := q
        walk_at "vs"
        refine w_join (fun σ' => (isNon a || (nameB a && !decide (strD a = sn))) = true ∧ σ' = [some (.v (.tup [.str sn, a, u, p, b])), some (.v (.str sn)), some (.v a), some (.v u), some (.v p), some (.v b)]) ?_ ?_
        · walk_at "vi"
          cases c2 : isNon a with
          | true =>
            walk_at "vs"
            exact rfl
          | false =>
            walk_at "vs"
            refine w_is_name ka ?_
            walk_at "vs"
            cases c3 : nameB a with
            | false =>
              rw [c2, c3, Bool.false_and, Bool.false_or, Bool.false_and] at q'
              walk_at "vs"
              exact q'
            | true =>
              obtain ⟨sa, rfl, oka⟩ := nameB_str c3
              walk_at "vs"
              refine wi (fun c4 => ?_) (fun c4 => ?_)
              · rw [c2, c3, show strD (.str sa) = sa from rfl, decide_eq_true c4] at q'
                walk_at "vs"
                exact q'
              · walk_at "vs"
                show (!decide (sa = sn)) = true
                rw [decide_eq_false c4]
                rfl
        · rintro σ' ⟨c2, rfl⟩
          rw [c2, Bool.true_and] at q'
          walk_at "vs"
          refine w_is_time ku kb ?_
          walk_at "vs"
          cases c3 : timeB u b with
          | false =>
            rw [c3, Bool.false_and] at q'
            walk_at "vs"
            exact q'
          | true =>
            rw [c3, Bool.true_and] at q'
            walk_at "vs"
            refine w_is_between kp ?_
            walk_at "vs"
            exact q'
def handB (l : Int) : D → Bool
  | .tup [n, g, w, k] => nameB n && nameB g && (betwB 1 100 w && betwB 0 (l - 1) k)
  | _ => false
theorem w_is_hand {l : Int} (h : Kn1 d) (q : Q (.v (.bl (handB l d))) [.v (.int l), .v d]) : WE (F_is_hand [.v (.int l), .v d]) (q := ⟨Q⟩) := by
  unfold F_is_hand X_is_hand
  walk_at "vi"
  rw [isi_tup h.toKn]
  walk_at "vs"
  cases ht : isTupD d with
  | false =>
    have e : handB l d = false := by cases d <;> first | rfl | cases ht
    rw [e] at q
    walk_at "vs"
    exact q
  | true =>
    cases d <;> (try cases ht)
    rename_i ds
    walk_at "vs"
    refine win (fun c => ?_) (fun c => ?_)
    · have e : handB l (.tup ds) = false := by
        unfold handB
        split
        · rename_i e0
          cases e0
          exact (c rfl).elim
        · rfl
      rw [e] at q
      walk_at "vs"
      exact q
    · obtain ⟨n, g, w, k, rfl⟩ := four c
      have kn := h.el _ rfl n (by simp)
      have kg := h.el _ rfl g (by simp)
      have kw := h.el _ rfl w (by simp)
      have kk := h.el _ rfl k (by simp)
      have e : handB l (.tup [n, g, w, k]) = (nameB n && nameB g && (betwB 1 100 w && betwB 0 (l - 1) k)) := rfl
      rw [e] at q
      walk_at "vs"
      refine w_is_name kn ?_
      walk_at "vs"
      cases c1 : nameB n with
      | false =>
        rw [c1, Bool.false_and, Bool.false_and] at q
        walk_at "vs"
        exact q
      | true =>
        rw [c1, Bool.true_and] at q
        walk_at "vs"
        refine w_is_name kg ?_
        walk_at "vs"
        cases c2 : nameB g with
        | false =>
          rw [c2, Bool.false_and] at q
          walk_at "vs"
          exact q
        | true =>
          rw [c2, Bool.true_and] at q
          walk_at "vs"
          refine w_is_between kw ?_
          walk_at "vs"
          cases c3 : betwB 1 100 w with
          | false =>
            rw [c3, Bool.false_and] at q
            walk_at "vs"
            exact q
          | true =>
            rw [c3, Bool.true_and] at q
            walk_at "vs"
            refine w_is_between kk ?_
            walk_at "vs"
            exact q
/-! ### rising -/
def risB (ns : List Str) : Bool := (List.zipWith (fun a b : Str => decide (a.cps.toList < b.cps.toList)) ns.dropLast (ns.drop 1)).all id
theorem ris_cons {a b : Str} {r : List Str} : risB (a :: b :: r) = (decide (a.cps.toList < b.cps.toList) && risB (b :: r)) := rfl
theorem ris_lt : ∀ {ns : List Str}, risB ns = true ↔ ns.Pairwise ltS
  | [] => ⟨fun _ => List.Pairwise.nil, fun _ => rfl⟩
  | [a] => ⟨fun _ => List.pairwise_singleton .., fun _ => rfl⟩
  | a :: b :: r => by
    rw [ris_cons, Bool.and_eq_true, decide_eq_true_iff, ris_lt (ns := b :: r), List.pairwise_cons (a := a)]
    constructor
    · rintro ⟨h1, h2⟩
      refine ⟨fun x hx => ?_, h2⟩
      rcases List.mem_cons.mp hx with z | z
      · rw [z]
        exact h1
      · exact ltS_trans (show ltS a b from h1) ((List.pairwise_cons.mp h2).1 x z)
    · rintro ⟨h1, h2⟩
      exact ⟨h1 b (List.mem_cons_self ..), h2⟩
def nmD : D → Str
  | .tup (.str n :: _) => n
  | _ => ""
def HasNm (d : D) : Prop := ∃ n r, d = .tup (.str n :: r)
theorem cut_m1 {ds : List D} : cutD ds none (some (-1)) = ds.dropLast := by
  have e : HT.sIx ds.length ds.length (some (-1)) = ds.length - 1 := by
    show (if (-1 : Int) < 0 then ((-1 : Int) + (ds.length : Int)).toNat else min (-1 : Int).toNat ds.length) = _
    rw [if_pos (by decide)]
    omega
  unfold cutD
  rw [HT.sIx_none, e, List.drop_zero, List.dropLast_eq_take, Nat.sub_zero]
theorem cut_1 {ds : List D} : cutD ds (some 1) none = ds.drop 1 := by
  unfold cutD
  rw [HT.sIx_none, show HT.sIx ds.length 0 (some 1) = min 1 ds.length from HT.sIx_nat _ _ 1]
  cases ds with
  | nil => rfl
  | cons d ds =>
    rw [Nat.min_eq_left (by simp)]
    exact List.take_of_length_le (by simp)
def fRis : D → D
  | .tup [x, y] => .bl (decide ((nmD x).cps.toList < (nmD y).cps.toList))
  | _ => .non
theorem zip_ris (ds es : List D) : (List.zipWith (fun a b => D.tup [a, b]) ds es).map fRis = (List.zipWith (fun a b : Str => decide (a.cps.toList < b.cps.toList)) (ds.map nmD) (es.map nmD)).map D.bl := by
  rw [List.map_zipWith, List.map_zipWith, List.zipWith_map]
  rfl
theorem zipWith_in {α β γ : Type} {f : α → β → γ} : ∀ {as : List α} {bs : List β} {c : γ}, c ∈ List.zipWith f as bs → ∃ a ∈ as, ∃ b ∈ bs, c = f a b
  | [], _, c, h => by cases h
  | a :: as, [], c, h => by cases h
  | a :: as, b :: bs, c, h => by
    rw [List.zipWith_cons_cons] at h
    rcases List.mem_cons.mp h with z | z
    · exact ⟨a, List.mem_cons_self .., b, List.mem_cons_self .., z⟩
    · obtain ⟨a', ha, b', hb, e⟩ := zipWith_in z
      exact ⟨a', List.mem_cons_of_mem _ ha, b', List.mem_cons_of_mem _ hb, e⟩
theorem w_are_rising {ds : List D} (h : ∀ e ∈ ds, HasNm e) (l : ds.length ≤ 100) (q : Q (.v (.bl (risB (ds.map nmD)))) [.v (.tup ds)]) : WE (F_are_rising [.v (.tup ds)]) (q := ⟨Q⟩) := by
  unfold F_are_rising X_are_rising
  walk_at "vs"
  rw [cut_m1, cut_1]
  refine wc (fun z => z.elim) ?_
  refine wc ?_ ?_
  · rw [List.length_zipWith, List.length_dropLast]
    omega
  refine lc_pure (fun _ => true) fRis trivial ?_ ?_
  · intro d hd
    obtain ⟨x, hx, y, hy, rfl⟩ := zipWith_in hd
    obtain ⟨n, r, rfl⟩ := h x ((List.dropLast_sublist ds).subset hx)
    obtain ⟨m, s, rfl⟩ := h y (List.mem_of_mem_drop hy)
    walk_at "vs"
    exact rfl
  · rw [filter_yes, zip_ris]
    walk_at "vs"
    rw [g_allB]
    walk_at "vs"
    have e : risB (ds.map nmD) = (List.zipWith (fun a b : Str => decide (a.cps.toList < b.cps.toList)) (ds.dropLast.map nmD) ((ds.drop 1).map nmD)).all id := by
      unfold risB
      rw [List.map_dropLast, List.map_drop]
    rw [e] at q
    exact q
end
end LK
end
section
namespace LK
open PySem L2 FL
/-- _law_told(_law_query, _law_thing, _law_due): 0 _law_query, 1 _law_thing, 2 _law_due, 3 _law_written, 4 _law_turn, 5 _law_found -/
noncomputable def X_law_told (fq : Addr) : XS := (xSeq (xAsg (xUn gReprX (xVar 1)) (yN 3))
        (xSeq (xFor (iR1 (xC (.int 2))) (yN 4)
            (xSeq (xAsg (xP (xFnL 0 fq 1 F_is_name [.ex (xV (xVar 1))])) (yN 5))
            (xIfS (xOr (xNot (xB (xOp gIsi (xVar 5) (xC (.ty "bool"))))) (xB (xOp gNe (xVar 5) (xVar 2))))
                (xRet (xV (xC (.bl false))))
                xNext)))
        (xRet (xV (xOp gEq (xUn gReprX (xVar 1)) (xVar 3))))))
noncomputable def F_law_told (fq : Addr) : VF := runF 6 [] (X_law_told fq)
/-- _law_sign(_law_deck_here): 0 _law_deck_here, 1 _law_some -/
noncomputable def X_law_sign : XS := (xSeq (xAsg (xC (.str " !\"#$&'()*+,-./0123456789:;<=>?@ABCDEFGHIJKLMNOPQRSTUVWXYZ[\\]^_`abcdefghijklmnopqrstuvwxyz{|}~\n")) (yN 1))
        (xSeq (xAsg (xOp gAdd (xVar 1) (xOp gMulS (xC (.str "0123456789 \n/-")) (xC (.int 4)))) (yN 1))
        (xRet (xV (xOp gIx (xVar 1) (xD (xFn 2 F_law_draw [.rf 0, .ex (xV (xUn gLen (xVar 1)))])))))))
noncomputable def F_law_sign : VF := runF 2 [0] X_law_sign
/-- _law_is_name(_law_thing): 0 _law_thing, 1 _law_sign_here -/
noncomputable def X_law_is_name : XS := (xSeq (xIfS (xOr (xNot (xB (xOp gIsi (xVar 0) (xC (.ty "str"))))) (xNot (xB (xChain gLt gLt (xC (.int 0)) (xUn gLen (xVar 0)) (xC (.int 9))))))
            (xRet (xV (xC (.bl false))))
            xNext)
        (xRet (xV (xOpF gEq (xLc (iS (xVar 0)) (yC (.one 1)) (xB (xOp (gIn true) (xVar 1) (xC (.str "abcdefghijklmnopqrstuvwxyz")))) (xVar 1) [1]) (xLst xNil)))))
noncomputable def F_law_is_name : VF := runF 2 [] X_law_is_name
/-- _law_odd(_law_deck_here): 0 _law_deck_here, 1 _law_deep, 2 _law_k, 3 _law_some -/
noncomputable def X_law_odd : XS := (xSeq (xAsg (xC (.int 0)) (yN 1))
        (xSeq (xFor (iR1 (xC (.int 8))) (yN 2)
            (xAsg (xOp gIx (xLst (xCons (xTup (xCons (xVar 1) xNil)) (xCons (xLst (xCons (xVar 1) xNil)) (xCons (xDispV (xC (.int 0)) (xVar 1)) xNil)))) (xD (xFn 2 F_law_draw [.rf 0, .ex (xV (xC (.int 3)))]))) (yN 1)))
        (xSeq (xAsgF (xLstN (xCons (xC .non) (xCons (xC (.bl true)) (xCons (xC (.bl false)) (xCons (xC (.int 0)) (xCons (xC (.int 1)) (xCons (xUn gNeg (xC (.int 1))) (xCons (xC (.int 4)) (xCons (xC (.int 5)) (xCons (xC (.int 100)) (xCons (xC (.int 101)) (xCons (xC (.int 1000)) (xCons (xC (.int 1001)) (xCons (xOp gPow (xC (.int 10)) (xC (.int 39))) (xCons (xC (.str "")) (xCons (xC (.str "a")) (xCons (xC (.str "A")) (xCons (xC (.str "abcdefghi")) (xCons (xC (.str "a1")) (xCons (xC (.str "-")) (xCons (xTup xNil) xNil))))))))))))))))))))) 3)
        (xSeq (xAsgF (xAddN 3 (xLst (xCons (xTup (xCons (xC (.int 0)) xNil)) (xCons (xTup (xCons (xC (.str "a")) xNil)) (xCons (xLst xNil) (xCons (xLst (xCons (xC (.str "a")) xNil)) (xCons xDNewV (xCons (xDispV (xC (.int 0)) (xC (.int 1))) (xCons (xVar 1) (xCons (xTup (xCons (xTup xNil) xNil)) (xCons (xTup (xCons (xC (.int 1)) (xCons (xC (.int 1)) (xCons (xC (.int 0)) (xCons (xC (.int 1)) xNil))))) (xCons (xC (.str "wake")) (xCons (xTup (xCons (xC (.str "a")) (xCons (xC .non) (xCons (xC (.int 1)) (xCons (xC (.int 1)) (xCons (xC (.int 0)) xNil)))))) xNil))))))))))))) 3)
        (xSeq (xDrop (xApp 3 (xTup (xCons (xC (.str "a")) (xCons (xC (.str "a")) (xCons (xC (.int 1)) (xCons (xC (.int 0)) xNil)))))))
        (xRet (xV (xOpP gIx 3 (xD (xFn 2 F_law_draw [.rf 0, .ex (xV (xUn gLen (xRd 3)))]))))))))))
noncomputable def F_law_odd : VF := runF 4 [0] X_law_odd
/-- law(_law_script): 0 _law_script, 1 _law_cell, 2 _law_deck_here, 3 _law_things, 4 _law_name, 5 _law_at, 6 _law_thing -/
noncomputable def X_law (fq : Addr) : XS := (xSeq (xFor (iL (xOp gAdd (xSl (xVar 0) xNo (xPt (xC (.int 10)))) (xLst (xCons (xC (.int 3)) xNil)))) (yN 1)
            (xSeq (xAsgF (xFn 1 F_law_deck [.ex (xV (xVar 1))]) 2)
            (xSeq (xAsgF (xLstN (xCons (xC (.str "")) (xCons (xC (.str "a")) (xCons (xC (.str "z")) (xCons (xC (.str "abcdefgh")) (xCons (xC (.str "abcdefghi")) (xCons (xC (.str "A")) (xCons (xC (.str "aB")) (xCons (xC (.str "a b")) (xCons (xC (.str "a1")) (xCons (xC (.str "-")) (xCons (xC (.str "a\n")) (xCons (xC .non) (xCons (xC (.int 0)) (xCons (xC (.bl true)) (xCons (xTup (xCons (xC (.str "a")) xNil)) xNil)))))))))))))))) 3)
            (xSeq (xFor (iF (xFn 2 F_law_words [.rf 2, .ex (xV (xC (.int 8)))])) (yN 4)
                (xSeq (xAsg (xP (xFn 2 F_law_draw [.rf 2, .ex (xV (xOp gAdd (xUn gLen (xVar 4)) (xC (.int 1))))])) (yN 5))
                (xSeq (xDrop (xApp 3 (xOp gAdd (xOp gAdd (xSl (xVar 4) xNo (xPt (xVar 5))) (xD (xFn 1 F_law_sign [.rf 2]))) (xSl (xVar 4) (xPt (xVar 5)) xNo))))
                (xSeq (xAsgF (xAddN 3 (xLst (xCons (xVar 4) (xCons (xOp gAdd (xOp gAdd (xSl (xVar 4) xNo (xPt (xVar 5))) (xD (xFn 1 F_law_sign [.rf 2]))) (xSl (xVar 4) (xPt (xOp gAdd (xVar 5) (xC (.int 1)))) xNo)) xNil)))) 3)
                (xAsgF (xAddN 3 (xLst (xCons (xOp gAdd (xSl (xVar 4) xNo (xPt (xVar 5))) (xSl (xVar 4) (xPt (xOp gAdd (xVar 5) (xC (.int 1)))) xNo)) (xCons (xUn gUpper (xVar 4)) (xCons (xOp gAdd (xVar 4) (xVar 4)) (xCons (xTup (xCons (xVar 4) xNil)) (xCons (xDispV (xVar 4) (xC (.int 1))) (xCons (xP (xFn 1 F_law_odd [.rf 2])) xNil)))))))) 3)))))
            (xFor (iP 3) (yN 6)
                (xIfS (xNot (xB (xP (xFn 3 (F_law_told fq) [.ex (xV (xC (.obj fq))), .ex (xV (xVar 6)), .ex (xFn 1 F_law_is_name [.ex (xV (xVar 6))])]))))
                    (xRet (xV (xC (.bl false))))
                    xNext))))))
        (xRet (xV (xC (.bl true)))))
noncomputable def F_law (fq : Addr) : VF := runF 7 [] (X_law fq)
end LK
end
section
namespace LK
open PySem L2 FL
local macro_rules | `(tactic| walk_at "vside") => `(tactic| first | assumption | omega | decide | (refine mulR ?_; constructor <;> omega) | (refine mulL ?_; constructor <;> omega) | (refine divOk ?_ ?_ <;> omega) | (refine ⟨?_, ?_, ?_⟩ <;> decide) | (refine ⟨?_, ?_⟩ <;> omega) | (simp only [List.length_append, List.length_cons, List.length_nil, List.length_map, List.length_range]; omega))
local macro_rules | `(tactic| walk_at "vs") => `(tactic| simp -implicitDefEqProofs only [e_listN, e_popAt, e_get1, e_dictN, g_get1S, xSortSet, e_iZp, g_isB, g_notB, g_revT, g_revL, e_iQ, mix_l, mix_v, e_fnL, e_dispV, e_dnewV, e_addN, g_addN, e_O, e_pv, e_ls, e_qs, e_bl, e_nt, e_T, e_F, e_CT, e_var, e_rd, e_mv, e_c, e_xV, e_xD, e_xP, e_op, e_opF, e_opP, e_un, e_b, e_yes, e_and, e_or, e_not, e_if, e_andV, e_orV, e_notV, e_chain, e_nil, e_cons, e_tup, e_lst, e_lstN, e_dnew, e_no, e_pt, e_sl, e_slF, e_slP, e_slN, e_lsv, e_get, e_app,
  e_next, e_break, e_cont, e_seq, e_drop, e_dropF, e_ret, e_retN, e_asg, e_yN, e_ysNil, e_ysCons, e_yT, e_asgF, e_par, e_hd, e_aug, e_setL, e_dput, e_kS, e_kI, e_fn, e_arNil, e_arRf, e_arEx, e_resN, e_resL, e_resR, e_bkN, e_bkL, e_bkR, e_run, e_oN, e_oC, e_for, e_iL, e_iT, e_some, e_someE, e_iP, e_iK, e_iF, e_iR1, e_iR2, e_iS, e_lc, e_dc, e_yC1, e_yCm, e_sa0, e_sa, e_wi0, e_wi, e_re0, e_re, e_lockS, e_lockF, e_items, e_iEn, e_iEnP, e_yStar, e_asgS, g_rep,
  g_addI, g_addL, g_addT, g_addS, g_subI, g_mulI, g_divI, g_modI, g_powI, g_negI, g_ltI, g_ltS, g_leI, g_gtI, g_geI, g_eqI, g_eqS, g_eqB, g_neI, g_neS, g_neB, g_isN, g_notN, isN1, isN2, isN3, g_ixT, g_ixL, g_ixZ, g_lenT, g_lenL, g_lenZ, g_min, g_max, g_intB, g_intI, g_tupL, g_tupT, g_lstT, g_lstL, g_cutT, g_cutL, g_cutZ, g_dgS, g_dgI, g_getS, g_getI, g_getN, g_diS, isS_d, vo_v, vo_l, vo_q, vo_f, vw_v, vw_l, vw_q, vw_f, at0, at1, at2, at3, at4, ix0, ix1, ix2,
  refsA, List.nodup_cons, List.mem_cons, List.not_mem_nil, List.nodup_nil, not_false_eq_true, and_true, true_and, or_false, false_or, and_self, not_true_eq_false, List.length_cons, List.length_nil, List.map_cons, List.map_nil, List.replicate, List.cons_append, List.nil_append, List.set_cons_zero, List.set_cons_succ, List.getElem?_cons_zero, List.getElem?_cons_succ, List.tail_cons, Nat.reduceAdd, Nat.reduceSub, Nat.reduceLeDiff, Nat.reduceEqDiff, Int.reduceLT, Int.reduceLE, Int.reduceNeg, Int.reduceEq, decide_true, decide_false, Bool.not_true, Bool.not_false, Nat.zero_le, Option.some.injEq, reduceCtorEq, Nat.zero_add])
local macro_rules | `(tactic| walk_at "vc") => `(tactic| (repeat (refine wc ?c ?_; (case c => walk_at "vside"))))
local macro_rules | `(tactic| walk_at "vgo") => `(tactic| (walk_at "vs"; walk_at "vc"))
local macro_rules | `(tactic| walk_at "vi") => `(tactic| ((try walk_at "vgo"); rw [e_ifS]; walk_at "vgo"))

/-! ### things -/
/-- a thing that is asked: of a known kind, its text can be told -/
structure Good (d : D) : Prop where
  kn : Kn d
  rp : ∃ t, gReprX d = some (.str t)
  tx : ∀ s, d = .str s → TxOk s
theorem Good.px {d : D} {n m : Nat} (k : Kn d) (h : PX d n m) (hn : n ≤ 16777216) (hm : m ≤ 60) (tx : ∀ s, d = .str s → TxOk s) : Good d := ⟨k, g_reprX h hn hm, tx⟩
structure TxG (s : Str) : Prop where
  l : s.length ≤ 1000
  c : ∀ c ∈ s.cps.toList, c < 128
theorem TxG.tx {s : Str} (h : TxG s) : TxOk s := fun c hc => by
  have := h.c c hc
  omega
theorem TxG.px {s : Str} (h : TxG s) : PX (.str s) 10002 0 := px_str h.l fun c hc => by
  have := h.c c hc
  omega
theorem TxG.good {s : Str} (h : TxG s) : Good (.str s) := .px (kn_str (by have := h.l; omega)) h.px (by decide) (by decide) fun s e => by
  cases e
  exact h.tx
theorem NameS.g {s : Str} (h : NameS s) : TxG s := ⟨by have := h.hi; omega, fun c hc => by have := (h.ab c hc).2; omega⟩
theorem good_other {d : D} {n m : Nat} (k : Kn d) (h : PX d n m) (hn : n ≤ 16777216) (hm : m ≤ 60) (no : ∀ s, d ≠ .str s) : Good d := .px k h hn hm fun s e => (no s e).elim
theorem str_toList {a b : Str} : (a ++ b).cps.toList = a.cps.toList ++ b.cps.toList := by
  show ((a.cps ++ b.cps).toList) = _
  rw [Array.toList_append]
theorem str_len {a b : Str} : (a ++ b).length = a.length + b.length := by
  show (a.cps ++ b.cps).size = a.cps.size + b.cps.size
  exact Array.size_append
theorem TxG.app {a b : Str} (ha : TxG a) (hb : TxG b) (hl : a.length + b.length ≤ 1000) : TxG (a ++ b) := ⟨by rw [str_len]; exact hl, fun c hc => by
  rw [str_toList] at hc
  rcases List.mem_append.mp hc with z | z
  · exact ha.c c z
  · exact hb.c c z⟩
theorem cutS_mem {s : Str} {lo hi : Option Int} {c : Nat} (h : c ∈ (cutS s lo hi).cps.toList) : c ∈ s.cps.toList := by
  unfold cutS at h
  rw [List.toList_toArray] at h
  exact List.mem_of_mem_drop (List.mem_of_mem_take h)
theorem cutS_le {s : Str} {lo hi : Option Int} : (cutS s lo hi).length ≤ s.length := by
  show (cutS s lo hi).cps.size ≤ s.cps.size
  unfold cutS
  rw [List.size_toArray, List.length_take, List.length_drop, Array.length_toList]
  omega
theorem TxG.cut {s : Str} {lo hi : Option Int} (h : TxG s) : TxG (cutS s lo hi) := ⟨Nat.le_trans cutS_le h.l, fun c hc => h.c c (cutS_mem hc)⟩
section
variable {Q : W → List W → Prop} {fq : Addr}
theorem w_told {d : D} (h : Good d) (q : Q (.v (.bl true)) [.v (.obj fq), .v d, .v (.bl (nameB d))]) : WE (F_law_told fq [.v (.obj fq), .v d, .v (.bl (nameB d))]) (q := ⟨Q⟩) := by
  obtain ⟨t, et⟩ := h.rp
  unfold F_law_told X_law_told
  walk_at "vs"
  rw [et]
  walk_at "vs"
  refine wc (by decide) ?_
  refine for_inv (fun k σ => ∃ (z4 z5 : Option W), σ = [some (.v (.obj fq)), some (.v d), some (.v (.bl (nameB d))), some (.v (.str t)), z4, z5]) ⟨none, none, rfl⟩ (fun _ _ _ _ => trivial) ?_ ?_
  · rintro k e σ ei ⟨z4, z5, rfl⟩
    walk_at "vs"
    refine w_is_name h.kn ?_
    walk_at "vi"
    rw [show gIsi (.bl (nameB d)) (.ty "bool") = some (.bl true) from rfl]
    walk_at "vs"
    exact ⟨_, _, rfl⟩
  · rintro σ ⟨z4, z5, rfl⟩
    walk_at "vs"
    rw [et]
    walk_at "vs"
    exact q
def pNot : D → Bool
  | .str z => match z.cps.toList with
    | [c] => !decide (c ∈ abc.cps.toList)
    | _ => false
  | _ => false
theorem g_ninC {c : Nat} : gIn true (.str ⟨#[c]⟩) (.str ("abcdefghijklmnopqrstuvwxyz" : Str)) = some (.bl (!decide (c ∈ abc.cps.toList))) := rfl
theorem w_law_is_name {d : D} (h : Good d) (q : Q (.v (.bl (nameB d))) [.v d]) : WE (F_law_is_name [.v d]) (q := ⟨Q⟩) := by
  unfold F_law_is_name X_law_is_name
  walk_at "vi"
  rw [isi_str h.kn]
  walk_at "vs"
  cases hs : isStrD d with
  | false =>
    have e : nameB d = false := by cases d <;> first | rfl | cases hs
    rw [e] at q
    walk_at "vs"
    exact q
  | true =>
    cases d <;> (try cases hs)
    rename_i s
    have e : nameB (.str s) = (decide (1 ≤ s.length) && decide (s.length ≤ 8) && s.cps.toList.all fun c => decide (c ∈ abc.cps.toList)) := rfl
    have tx := h.tx s rfl
    walk_at "vs"
    rw [g_lenS]
    refine wc (h.kn.st s rfl) ?_
    walk_at "vs"
    refine wi (fun c => ?_) (fun c => ?_)
    · walk_at "vs"
      refine win (fun c2 => ?_) (fun c2 => ?_)
      · walk_at "vs"
        rw [e, decide_eq_false (by omega : ¬ s.length ≤ 8), Bool.and_false, Bool.false_and] at q
        exact q
      · rw [e, decide_eq_true (by omega), decide_eq_true (by omega : s.length ≤ 8), Bool.true_and, Bool.true_and] at q
        walk_at "vs"
        have sl : (signsD s).length = s.length := by
          unfold signsD
          rw [List.length_map]
          exact Array.length_toList
        refine wc (by rw [sl]; omega) ?_
        refine lc_pure pNot (fun d => d) trivial ?_ ?_
        · intro d hd
          obtain ⟨c, hc, rfl⟩ := List.mem_map.mp hd
          walk_at "vs"
          rw [g_ninC]
          walk_at "vs"
          refine ⟨rfl, ?_⟩
          refine win (fun _ => ?_) (fun _ => ?_)
          · walk_at "vs"
          · walk_at "vs"
        · have em : ((signsD s).filter pNot).map (fun d => d) = ((s.cps.toList.filter fun c => !decide (c ∈ abc.cps.toList)).map fun c => (⟨#[c]⟩ : Str)).map D.str := by
            unfold signsD
            rw [List.map_id', List.filter_map, List.map_map]
            rfl
          rw [em]
          walk_at "vs"
          rw [show (D.lst []) = .lst (([] : List Str).map D.str) from rfl, g_eqTxL (fun t ht => by
            obtain ⟨c, hc, rfl⟩ := List.mem_map.mp ht
            intro x hx
            have hx' : x = c := by simpa using hx
            rw [hx']
            exact tx c (List.mem_filter.mp hc).1) (by simp)]
          walk_at "vs"
          have ee : decide (((s.cps.toList.filter fun c => !decide (c ∈ abc.cps.toList)).map fun c => (⟨#[c]⟩ : Str)) = []) = s.cps.toList.all fun c => decide (c ∈ abc.cps.toList) := by
            rw [Bool.eq_iff_iff, decide_eq_true_iff, List.map_eq_nil_iff, List.filter_eq_nil_iff, List.all_eq_true]
            constructor
            · intro z c hc
              have := z c hc
              simpa using this
            · intro z c hc
              have := z c hc
              simpa using this
          rw [ee]
          exact q
    · walk_at "vs"
      rw [e, decide_eq_false (by omega : ¬ 1 ≤ s.length), Bool.false_and, Bool.false_and] at q
      exact q
end
end LK
end
section
namespace LK
open PySem L2 FL
theorem addN_if {as bs : List D} {σ2 : VS} {QW : W → VS → Prop} : WE (if as.length + bs.length ≤ 16777216 then some (W.l (as ++ bs), σ2) else none) (q := ⟨QW⟩) = WC (as.length + bs.length ≤ 16777216) (QW (.l (as ++ bs)) σ2) := g_addN
local macro_rules | `(tactic| walk_at "vside") => `(tactic| first | assumption | omega | decide | (refine mulR ?_; constructor <;> omega) | (refine mulL ?_; constructor <;> omega) | (refine divOk ?_ ?_ <;> omega) | (refine ⟨?_, ?_, ?_⟩ <;> decide) | (refine ⟨?_, ?_⟩ <;> omega) | (simp only [List.length_append, List.length_cons, List.length_nil, List.length_map, List.length_range]; omega))
local macro_rules | `(tactic| walk_at "vs") => `(tactic| simp -implicitDefEqProofs only [e_listN, e_popAt, e_get1, e_dictN, g_get1S, xSortSet, e_iZp, g_isB, g_notB, g_revT, g_revL, e_iQ, mix_l, mix_v, e_fnL, e_dispV, e_dnewV, e_addN, g_addN, addN_if, if_true, e_O, e_pv, e_ls, e_qs, e_bl, e_nt, e_T, e_F, e_CT, e_var, e_rd, e_mv, e_c, e_xV, e_xD, e_xP, e_op, e_opF, e_opP, e_un, e_b, e_yes, e_and, e_or, e_not, e_if, e_andV, e_orV, e_notV, e_chain, e_nil, e_cons, e_tup, e_lst, e_lstN, e_dnew, e_no, e_pt, e_sl, e_slF, e_slP, e_slN, e_lsv, e_get, e_app,
  e_next, e_break, e_cont, e_seq, e_drop, e_dropF, e_ret, e_retN, e_asg, e_yN, e_ysNil, e_ysCons, e_yT, e_asgF, e_par, e_hd, e_aug, e_setL, e_dput, e_kS, e_kI, e_fn, e_arNil, e_arRf, e_arEx, e_resN, e_resL, e_resR, e_bkN, e_bkL, e_bkR, e_run, e_oN, e_oC, e_for, e_iL, e_iT, e_some, e_someE, e_iP, e_iK, e_iF, e_iR1, e_iR2, e_iS, e_lc, e_dc, e_yC1, e_yCm, e_sa0, e_sa, e_wi0, e_wi, e_re0, e_re, e_lockS, e_lockF, e_items, e_iEn, e_iEnP, e_yStar, e_asgS, g_rep,
  g_addI, g_addL, g_addT, g_addS, g_subI, g_mulI, g_divI, g_modI, g_powI, g_negI, g_ltI, g_ltS, g_leI, g_gtI, g_geI, g_eqI, g_eqS, g_eqB, g_neI, g_neS, g_neB, g_isN, g_notN, isN1, isN2, isN3, g_ixT, g_ixL, g_ixZ, g_lenT, g_lenL, g_lenZ, g_min, g_max, g_intB, g_intI, g_tupL, g_tupT, g_lstT, g_lstL, g_cutT, g_cutL, g_cutZ, g_dgS, g_dgI, g_getS, g_getI, g_getN, g_diS, isS_d, vo_v, vo_l, vo_q, vo_f, vw_v, vw_l, vw_q, vw_f, at0, at1, at2, at3, at4, ix0, ix1, ix2,
  refsA, List.nodup_cons, List.mem_cons, List.not_mem_nil, List.nodup_nil, not_false_eq_true, and_true, true_and, or_false, false_or, and_self, not_true_eq_false, List.length_cons, List.length_nil, List.map_cons, List.map_nil, List.replicate, List.cons_append, List.nil_append, List.set_cons_zero, List.set_cons_succ, List.getElem?_cons_zero, List.getElem?_cons_succ, List.tail_cons, Nat.reduceAdd, Nat.reduceSub, Nat.reduceLeDiff, Nat.reduceEqDiff, Int.reduceLT, Int.reduceLE, Int.reduceNeg, Int.reduceEq, decide_true, decide_false, Bool.not_true, Bool.not_false, Nat.zero_le, Option.some.injEq, reduceCtorEq, Nat.zero_add])
local macro_rules | `(tactic| walk_at "vc") => `(tactic| (repeat (refine wc ?c ?_; (case c => walk_at "vside"))))
local macro_rules | `(tactic| walk_at "vgo") => `(tactic| (walk_at "vs"; walk_at "vc"))
local macro_rules | `(tactic| walk_at "vi") => `(tactic| ((try walk_at "vgo"); rw [e_ifS]; walk_at "vgo"))

/-! ### things of other kinds -/
theorem good_i {i : Int} (h : i.natAbs < 2 ^ 200) : Good (.int i) := good_other kn_int (px_int h) (by decide) (by decide) fun s e => by cases e
theorem good_n : Good .non := good_other kn_non px_non (by decide) (by decide) fun s e => by cases e
theorem good_b {b : Bool} : Good (.bl b) := good_other kn_bl px_bl (by decide) (by decide) fun s e => by cases e
theorem good_t {ds : List D} {n m : Nat} (h : PXs ds n m) (hn : n + 3 ≤ 16777216) (hm : m + 1 ≤ 60) : Good (.tup ds) := good_other kn_tup (px_tup h) hn hm fun s e => by cases e
theorem kn_lst {ds : List D} : Kn (.lst ds) := ⟨rfl, fun s e => (by cases e)⟩
theorem kn_dct {ks : List Key} {ds : List D} : Kn (.dct ks ds) := ⟨rfl, fun s e => (by cases e)⟩
theorem good_l {ds : List D} {n m : Nat} (h : PXs ds n m) (hn : n + 2 ≤ 16777216) (hm : m + 1 ≤ 60) : Good (.lst ds) := good_other kn_lst (px_lst h) hn hm fun s e => by cases e
theorem good_s {s : Str} (h1 : s.length ≤ 1000) (h2 : ∀ c ∈ s.cps.toList, c < 128) : Good (.str s) := TxG.good ⟨h1, h2⟩
theorem px_a : PX (.str "a") 12 0 := px_str (n := 1) (by decide) (by decide)
theorem px_i1 {i : Int} (h : i.natAbs < 2 ^ 200) : PX (.int i) 201 0 := px_int h
theorem sx_key0 : SX (keyP (Sum.inl 0)) 201 0 := (sh_int (i := 0) (by decide)).x
structure Deep (k : Nat) (d : D) : Prop where
  px : PX d (201 + 300 * k) k
  ok : okR 0 d
  kn : Kn d
  no : ∀ s, d ≠ .str s
section
variable {Q : W → List W → Prop} {fq : Addr}
theorem w_sign {dk : W} (hd : DeckW dk) (q : ∀ c dk', DeckW dk' → c < 128 → Q (.v (.str ⟨#[c]⟩)) [dk']) : WE (F_law_sign [dk]) (q := ⟨Q⟩) := by
  unfold F_law_sign X_law_sign
  obtain ⟨S1, e1⟩ : ∃ S1 : Str, S1 = " !\"#$&'()*+,-./0123456789:;<=>?@ABCDEFGHIJKLMNOPQRSTUVWXYZ[\\]^_`abcdefghijklmnopqrstuvwxyz{|}~\n" := ⟨_, rfl⟩
  have l1 : S1.length ≤ 100 := by
    rw [e1]
    decide +kernel
  have c1 : ∀ c ∈ S1.cps.toList, c < 128 := by
    rw [e1]
    decide +kernel
  obtain ⟨S3, e3, l3, c3⟩ : ∃ S3, gMulS (.str "0123456789 \n/-") (.int 4) = some (.str S3) ∧ (1 ≤ S3.length ∧ S3.length ≤ 60) ∧ ∀ c ∈ S3.cps.toList, c < 128 := ⟨_, rfl, by decide +kernel, by decide +kernel⟩
  rw [← e1]
  walk_at "vs"
  rw [e3]
  walk_at "vs"
  refine wc (by omega) ?_
  rw [g_lenS]
  have lS : (S1 ++ S3).length = S1.length + S3.length := str_len
  refine wc (by omega) ?_
  walk_at "vs"
  refine w_draw hd (by omega) (by omega) fun v dk' hd' v0 v1 => ?_
  walk_at "vs"
  have hv : v.toNat < (S1 ++ S3).cps.toList.length := by
    have : (S1 ++ S3).cps.toList.length = (S1 ++ S3).length := Array.length_toList
    omega
  have ea : gIx (.str (S1 ++ S3)) (.int v) = some (.str ⟨#[(S1 ++ S3).cps.toList[v.toNat]]⟩) := by
    show (if (S1 ++ S3).length ≤ 16777216 then (atI (S1 ++ S3).cps.toList v).map fun c => D.str ⟨#[c]⟩ else none) = _
    rw [if_pos (by omega)]
    unfold atI
    rw [ix_in v0 (by omega)]
    show ((S1 ++ S3).cps.toList[v.toNat]?).map _ = _
    rw [List.getElem?_eq_getElem hv]
    rfl
  rw [ea]
  walk_at "vs"
  refine q _ dk' hd' ?_
  have hm := List.getElem_mem hv
  obtain ⟨x, ex⟩ : ∃ x, x = (S1 ++ S3).cps.toList[v.toNat] := ⟨_, rfl⟩
  rw [← ex] at hm ⊢
  rw [str_toList] at hm
  rcases List.mem_append.mp hm with z | z
  · exact c1 x z
  · exact c3 x z
theorem w_odd {dk : W} (hd : DeckW dk) (q : ∀ d dk', DeckW dk' → Good d → Q (.v d) [dk']) : WE (F_law_odd [dk]) (q := ⟨Q⟩) := by
  unfold F_law_odd X_law_odd
  walk_at "vs"
  refine wc (by decide) ?_
  refine for_inv (fun k σ => ∃ (dk' : W) (dd : D) (z2 : Option W), DeckW dk' ∧ Deep k dd ∧ σ = [some dk', some (.v dd), z2, none]) ⟨dk, .int 0, none, hd, ⟨px_int (by decide), trivial, kn_int, fun s e => by cases e⟩, rfl⟩ (fun _ _ _ _ => trivial) ?_ ?_
  · rintro k d σ ei ⟨dk1, dd, z2, hd1, dp, rfl⟩
    walk_at "vs"
    refine wc dp.ok ?_
    refine w_draw hd1 (by decide) (by decide) fun v dk2 hd2 v0 v1 => ?_
    walk_at "vs"
    rcases (by omega : v = 0 ∨ v = 1 ∨ v = 2) with rfl | rfl | rfl
    · walk_at "vs"
      refine ⟨dk2, _, _, hd2, ⟨(px_tup (pxs_cons dp.px pxs_nil)).wk (by omega) (by omega), ⟨dp.ok, trivial⟩, kn_tup, fun s e => by cases e⟩, rfl⟩
    · walk_at "vs"
      refine ⟨dk2, _, _, hd2, ⟨(px_lst (pxs_cons dp.px pxs_nil)).wk (by omega) (by omega), ⟨dp.ok, trivial⟩, kn_lst, fun s e => by cases e⟩, rfl⟩
    · walk_at "vs"
      refine ⟨dk2, _, _, hd2, ⟨(px_dct1 sx_key0 dp.px).wk (by omega) (by omega), ⟨dp.ok, trivial⟩, kn_dct, fun s e => by cases e⟩, rfl⟩
  · rintro σ ⟨dk1, dd, z2, hd1, dp0, rfl⟩
    have dp : Deep 8 dd := dp0
    walk_at "vgo"
    refine wc trivial (wc (by decide) ?_)
    obtain ⟨ls, els⟩ : ∃ ls, ls = [D.non, D.bl true, D.bl false, D.int 0, D.int 1, D.int (-1), D.int 4, D.int 5, D.int 100, D.int 101, D.int 1000, D.int 1001, D.int (10 ^ Int.toNat 39), D.str "", D.str "a", D.str "A", D.str "abcdefghi", D.str "a1", D.str "-", D.tup [],
      D.tup [D.int 0], D.tup [D.str "a"], D.lst [], D.lst [D.str "a"], D.dct [] [], D.dct [Sum.inl 0] [D.int 1], dd, D.tup [D.tup []], D.tup [D.int 1, D.int 1, D.int 0, D.int 1], D.str "wake", D.tup [D.str "a", D.non, D.int 1, D.int 1, D.int 0], D.tup [D.str "a", D.str "a", D.int 1, D.int 0]] := ⟨_, rfl⟩
    rw [← els]
    have ll : ls.length = 32 := by
      rw [els]
      rfl
    have lg : ∀ d ∈ ls, Good d := fun d hd => by
      rw [els] at hd
      simp only [List.mem_cons, List.not_mem_nil, or_false] at hd
      rcases hd with rfl | rfl | rfl | rfl | rfl | rfl | rfl | rfl | rfl | rfl | rfl | rfl | rfl | rfl | rfl | rfl | rfl | rfl | rfl | rfl | rfl | rfl | rfl | rfl | rfl | rfl | rfl | rfl | rfl | rfl | rfl | rfl
      · exact good_n
      · exact good_b
      · exact good_b
      · exact good_i (by decide)
      · exact good_i (by decide)
      · exact good_i (by decide)
      · exact good_i (by decide)
      · exact good_i (by decide)
      · exact good_i (by decide)
      · exact good_i (by decide)
      · exact good_i (by decide)
      · exact good_i (by decide)
      · exact good_i (by decide +kernel)
      · exact good_s (by decide) (by decide)
      · exact good_s (by decide) (by decide)
      · exact good_s (by decide) (by decide)
      · exact good_s (by decide) (by decide)
      · exact good_s (by decide) (by decide)
      · exact good_s (by decide) (by decide)
      · exact good_t pxs_nil (by decide) (by decide)
      · exact good_t (pxs_cons (px_i1 (by decide)) pxs_nil) (by decide) (by decide)
      · exact good_t (pxs_cons px_a pxs_nil) (by decide) (by decide)
      · exact good_l pxs_nil (by decide) (by decide)
      · exact good_l (pxs_cons px_a pxs_nil) (by decide) (by decide)
      · exact good_other kn_dct px_dct0 (by decide) (by decide) fun s e => by cases e
      · exact good_other kn_dct (px_dct1 sx_key0 (px_i1 (by decide))) (by decide) (by decide) fun s e => by cases e
      · exact good_other dp.kn dp.px (by decide) (by decide) dp.no
      · exact good_t (pxs_cons (px_tup pxs_nil) pxs_nil) (by decide) (by decide)
      · exact good_t (pxs_cons (px_i1 (by decide)) (pxs_cons (px_i1 (by decide)) (pxs_cons (px_i1 (by decide)) (pxs_cons (px_i1 (by decide)) pxs_nil)))) (by decide) (by decide)
      · exact good_s (by decide) (by decide)
      · exact good_t (pxs_cons px_a (pxs_cons px_non (pxs_cons (px_i1 (by decide)) (pxs_cons (px_i1 (by decide)) (pxs_cons (px_i1 (by decide)) pxs_nil))))) (by decide) (by decide)
      · exact good_t (pxs_cons px_a (pxs_cons px_a (pxs_cons (px_i1 (by decide)) (pxs_cons (px_i1 (by decide)) pxs_nil)))) (by decide) (by decide)
    refine w_draw hd1 (by omega) (by omega) fun v dk2 hd2 v0 v1 => ?_
    walk_at "vs"
    obtain ⟨d, hc, hm⟩ := at_in (ds := ls) v0 (by omega)
    rw [hc]
    walk_at "vs"
    exact q d dk2 hd2 (lg d hm)
end
end LK
end
section
namespace LK
open PySem L2 FL
local macro_rules | `(tactic| walk_at "vside") => `(tactic| first | assumption | omega | decide | (refine mulR ?_; constructor <;> omega) | (refine mulL ?_; constructor <;> omega) | (refine divOk ?_ ?_ <;> omega) | (refine ⟨?_, ?_, ?_⟩ <;> decide) | (refine ⟨?_, ?_⟩ <;> omega) | (simp only [List.length_append, List.length_cons, List.length_nil, List.length_map, List.length_range]; omega))
local macro_rules | `(tactic| walk_at "vs") => `(tactic| simp -implicitDefEqProofs only [e_listN, e_popAt, e_get1, e_dictN, g_get1S, xSortSet, e_iZp, g_isB, g_notB, g_revT, g_revL, e_iQ, mix_l, mix_v, e_fnL, e_dispV, e_dnewV, e_addN, g_addN, addN_if, if_true, ite_wc, e_O, e_pv, e_ls, e_qs, e_bl, e_nt, e_T, e_F, e_CT, e_var, e_rd, e_mv, e_c, e_xV, e_xD, e_xP, e_op, e_opF, e_opP, e_un, e_b, e_yes, e_and, e_or, e_not, e_if, e_andV, e_orV, e_notV, e_chain, e_nil, e_cons, e_tup, e_lst, e_lstN, e_dnew, e_no, e_pt, e_sl, e_slF, e_slP, e_slN, e_lsv, e_get, e_app,
  e_next, e_break, e_cont, e_seq, e_drop, e_dropF, e_ret, e_retN, e_asg, e_yN, e_ysNil, e_ysCons, e_yT, e_asgF, e_par, e_hd, e_aug, e_setL, e_dput, e_kS, e_kI, e_fn, e_arNil, e_arRf, e_arEx, e_resN, e_resL, e_resR, e_bkN, e_bkL, e_bkR, e_run, e_oN, e_oC, e_for, e_iL, e_iT, e_some, e_someE, e_iP, e_iK, e_iF, e_iR1, e_iR2, e_iS, e_lc, e_dc, e_yC1, e_yCm, e_sa0, e_sa, e_wi0, e_wi, e_re0, e_re, e_lockS, e_lockF, e_items, e_iEn, e_iEnP, e_yStar, e_asgS, g_rep,
  g_addI, g_addL, g_addT, g_addS, g_subI, g_mulI, g_divI, g_modI, g_powI, g_negI, g_ltI, g_ltS, g_leI, g_gtI, g_geI, g_eqI, g_eqS, g_eqB, g_neI, g_neS, g_neB, g_isN, g_notN, isN1, isN2, isN3, g_ixT, g_ixL, g_ixZ, g_lenT, g_lenL, g_lenZ, g_min, g_max, g_intB, g_intI, g_tupL, g_tupT, g_lstT, g_lstL, g_cutT, g_cutL, g_cutZ, g_dgS, g_dgI, g_getS, g_getI, g_getN, g_diS, isS_d, vo_v, vo_l, vo_q, vo_f, vw_v, vw_l, vw_q, vw_f, at0, at1, at2, at3, at4, ix0, ix1, ix2,
  refsA, List.nodup_cons, List.mem_cons, List.not_mem_nil, List.nodup_nil, not_false_eq_true, and_true, true_and, or_false, false_or, and_self, not_true_eq_false, List.length_cons, List.length_nil, List.map_cons, List.map_nil, List.replicate, List.cons_append, List.nil_append, List.set_cons_zero, List.set_cons_succ, List.getElem?_cons_zero, List.getElem?_cons_succ, List.tail_cons, Nat.reduceAdd, Nat.reduceSub, Nat.reduceLeDiff, Nat.reduceEqDiff, Int.reduceLT, Int.reduceLE, Int.reduceNeg, Int.reduceEq, decide_true, decide_false, Bool.not_true, Bool.not_false, Nat.zero_le, Option.some.injEq, reduceCtorEq, Nat.zero_add])
local macro_rules | `(tactic| walk_at "vc") => `(tactic| (repeat (refine wc ?c ?_; (case c => walk_at "vside"))))
local macro_rules | `(tactic| walk_at "vgo") => `(tactic| (walk_at "vs"; walk_at "vc"))
local macro_rules | `(tactic| walk_at "vi") => `(tactic| ((try walk_at "vgo"); rw [e_ifS]; walk_at "vgo"))

theorem one_g {c : Nat} (h : c < 128) : TxG ⟨#[c]⟩ := ⟨by show 1 ≤ 1000; decide, fun x hx => by
  have hx' : x = c := by simpa using hx
  omega⟩
theorem one_l {c : Nat} : (⟨#[c]⟩ : Str).length = 1 := rfl
theorem upper_g {s : Str} (h : TxG s) : TxG (Txt.upper s) := by
  have e := PyProof.Rows.upper_ascii h.c
  rw [e]
  refine ⟨?_, fun c hc => ?_⟩
  · show (s.cps.map PyProof.Rows.up1).size ≤ 1000
    rw [Array.size_map]
    exact h.l
  · have hc' : c ∈ s.cps.toList.map PyProof.Rows.up1 := by simpa using hc
    obtain ⟨x, hx, rfl⟩ := List.mem_map.mp hc'
    have := h.c x hx
    unfold PyProof.Rows.up1
    split <;> omega
theorem first_good : ∀ d ∈ [D.str "", D.str "a", D.str "z", D.str "abcdefgh", D.str "abcdefghi", D.str "A", D.str "aB", D.str "a b", D.str "a1", D.str "-", D.str "a\n", D.non, D.int 0, D.bl true, D.tup [D.str "a"]], Good d := fun d hd => by
  simp only [List.mem_cons, List.not_mem_nil, or_false] at hd
  rcases hd with rfl | rfl | rfl | rfl | rfl | rfl | rfl | rfl | rfl | rfl | rfl | rfl | rfl | rfl | rfl
  · exact good_s (by decide) (by decide)
  · exact good_s (by decide) (by decide)
  · exact good_s (by decide) (by decide)
  · exact good_s (by decide) (by decide)
  · exact good_s (by decide) (by decide)
  · exact good_s (by decide) (by decide)
  · exact good_s (by decide) (by decide)
  · exact good_s (by decide) (by decide)
  · exact good_s (by decide) (by decide)
  · exact good_s (by decide) (by decide)
  · exact good_s (by decide) (by decide)
  · exact good_n
  · exact good_i (by decide)
  · exact good_b
  · exact good_t (pxs_cons px_a pxs_nil) (by decide) (by decide)
theorem law_true (fq : Addr) (ns : List Int) (hns : ns.length ≤ 63) : ∃ ws', F_law fq [.v (.scr (ns.map D.int))] = some (.v (.bl true), ws') := by
  have main : WE (F_law fq [.v (.scr (ns.map D.int))]) (q := ⟨fun w _ => w = .v (.bl true)⟩) := by
    unfold F_law X_law
    walk_at "vs"
    rw [cut_to (by decide)]
    refine wc (by rw [List.length_take, List.length_map]; simp; omega) ?_
    refine for_inv (fun k σ => ∃ (z1 z2 z3 z4 z5 z6 : Option W), σ = [some (.v (.scr (ns.map D.int))), z1, z2, z3, z4, z5, z6]) ⟨none, none, none, none, none, none, rfl⟩ (fun _ _ _ _ => trivial) ?_ ?_
    · rintro k d σ e ⟨z1, z2, z3, z4, z5, z6, rfl⟩
      obtain ⟨c, rfl⟩ : ∃ c, d = .int c := by
        rcases List.mem_append.mp (List.mem_of_getElem? e) with z | z
        · obtain ⟨c, _, rfl⟩ := List.mem_map.mp (List.mem_of_mem_take z)
          exact ⟨c, rfl⟩
        · exact ⟨3, List.mem_singleton.mp z⟩
      walk_at "vs"
      refine w_deck fun dk hd => ?_
      walk_at "vs"
      refine w_words2 hd (by decide) (by decide) fun wl nm dk2 hwl hd2 nl ndw nok => ?_
      rw [hwl]
      have nl' : nm.length = 8 := nl
      obtain ⟨fs, efs⟩ : ∃ fs, fs = [D.str "", D.str "a", D.str "z", D.str "abcdefgh", D.str "abcdefghi", D.str "A", D.str "aB", D.str "a b", D.str "a1", D.str "-", D.str "a\n", D.non, D.int 0, D.bl true, D.tup [D.str "a"]] := ⟨_, rfl⟩
      have fl : fs.length = 15 := by
        rw [efs]
        rfl
      have fg : ∀ d ∈ fs, Good d := by
        rw [efs]
        exact first_good
      rw [← efs]
      walk_at "vs"
      refine for_inv (fun i σ => ∃ (ws : List D) (dk3 : W) (z4 z5 : Option W), DeckW dk3 ∧ ws.length ≤ 15 + 9 * i ∧ (∀ d ∈ ws, Good d) ∧ σ = [some (.v (.scr (ns.map D.int))), some (.v (.int c)), some dk3, some (.l ws), z4, z5, z6]) ⟨fs, dk2, z4, z5, hd2, by omega, fg, rfl⟩ (fun _ _ _ _ => trivial) ?_ ?_
      · rintro i d σ ei ⟨ws, dk3, z4, z5, hd3, wl3, wg, rfl⟩
        have hi : i < 8 := by
          have := (List.getElem?_eq_some_iff.mp ei).1
          rw [List.length_map] at this
          omega
        obtain ⟨x, hx, rfl⟩ := List.mem_map.mp (List.mem_of_getElem? ei)
        have nx := nok x hx
        have gx := LK.NameS.g nx
        have lx := nx.hi
        have lx1 := nx.lo
        have cl : ∀ lo hi, (cutS x lo hi).length ≤ 8 := fun lo hi => Nat.le_trans cutS_le lx
        walk_at "vs"
        rw [g_lenS]
        refine wc (by omega) ?_
        walk_at "vs"
        refine w_draw hd3 (by omega) (by omega) fun at_ dk4 hd4 a0 a1 => ?_
        walk_at "vs"
        rw [g_cutS]
        refine wc (by omega) ?_
        walk_at "vs"
        refine w_sign hd4 fun s1 dk5 hd5 hs1 => ?_
        have o1 := one_g hs1
        walk_at "vs"
        rw [one_l]
        refine wc (by have := cl none (some at_); omega) ?_
        rw [g_cutS]
        refine wc (by omega) ?_
        walk_at "vs"
        rw [str_len, one_l]
        refine wc (by have := cl none (some at_); have := cl (some at_) none; omega) ?_
        refine wc (by omega) ?_
        have t1 : Good (.str (cutS x none (some at_) ++ ⟨#[s1]⟩ ++ cutS x (some at_) none)) := TxG.good ((gx.cut.app o1 (by have := cl none (some at_); have := @one_l s1; omega)).app gx.cut (by rw [str_len]; have := cl none (some at_); have := cl (some at_) none; have := @one_l s1; omega))
        rw [g_cutS]
        refine wc (by omega) ?_
        walk_at "vs"
        refine w_sign hd5 fun s2 dk6 hd6 hs2 => ?_
        have o2 := one_g hs2
        walk_at "vs"
        rw [one_l]
        refine wc (by have := cl none (some at_); omega) ?_
        rw [g_cutS]
        refine wc (by omega) ?_
        walk_at "vs"
        rw [str_len, one_l]
        refine wc (by have := cl none (some at_); have := cl (some (at_ + 1)) none; omega) ?_
        have t2 : Good (.str (cutS x none (some at_) ++ ⟨#[s2]⟩ ++ cutS x (some (at_ + 1)) none)) := TxG.good ((gx.cut.app o2 (by have := cl none (some at_); have := @one_l s2; omega)).app gx.cut (by rw [str_len]; have := cl none (some at_); have := cl (some (at_ + 1)) none; have := @one_l s2; omega))
        refine wc (by rw [List.length_append]; simp; omega) ?_
        obtain ⟨ws2, ew2⟩ : ∃ ws2, ws2 = ws ++ [D.str (cutS x none (some at_) ++ ⟨#[s1]⟩ ++ cutS x (some at_) none)] ++ [D.str x, D.str (cutS x none (some at_) ++ ⟨#[s2]⟩ ++ cutS x (some (at_ + 1)) none)] := ⟨_, rfl⟩
        rw [← ew2]
        have wl2 : ws2.length ≤ ws.length + 3 := by
          rw [ew2]
          simp
        have wg2 : ∀ d ∈ ws2, Good d := fun d hd => by
          rw [ew2] at hd
          rcases List.mem_append.mp hd with z | z
          · rcases List.mem_append.mp z with z | z
            · exact wg d z
            · rw [List.mem_singleton.mp z]
              exact t1
          · simp only [List.mem_cons, List.not_mem_nil, or_false] at z
            rcases z with rfl | rfl
            · exact TxG.good gx
            · exact t2
        rw [g_cutS]
        refine wc (by omega) ?_
        walk_at "vs"
        rw [g_cutS]
        refine wc (by omega) ?_
        walk_at "vs"
        refine wc (by have := cl none (some at_); have := cl (some (at_ + 1)) none; omega) ?_
        rw [g_upper]
        refine wc (by omega) ?_
        walk_at "vs"
        refine wc (by omega) ?_
        first
          | rw [show keyD (D.str x) = some (Sum.inr x) from rfl]
          | skip
        try (walk_at "vs")
        refine wc trivial ?_
        refine w_odd hd6 fun od dk7 hd7 god => ?_
        walk_at "vs"
        have g3 : Good (.str (cutS x none (some at_) ++ cutS x (some (at_ + 1)) none)) := TxG.good (gx.cut.app gx.cut (by have := cl none (some at_); have := cl (some (at_ + 1)) none; omega))
        have g4 : Good (.str (Txt.upper x)) := TxG.good (upper_g gx)
        have g5 : Good (.str (x ++ x)) := TxG.good (gx.app gx (by omega))
        have pxx : PX (.str x) 10002 0 := gx.px
        have g6 : Good (.tup [.str x]) := good_t (pxs_cons pxx pxs_nil) (by decide) (by decide)
        have g7 : Good (.dct [Sum.inr x] [.int 1]) := good_other kn_dct (px_dct1 (sh_str gx.l fun c hc => by have := gx.c c hc; omega).x (px_i1 (by decide))) (by decide) (by decide) fun s e => by cases e
        refine wc (by omega) ?_
        refine ⟨_, dk7, _, _, hd7, ?_, fun d hd => ?_, rfl⟩
        · rw [List.length_append]
          simp
          omega
        · rcases List.mem_append.mp hd with z | z
          · exact wg2 d z
          · simp only [List.mem_cons, List.not_mem_nil, or_false] at z
            rcases z with rfl | rfl | rfl | rfl | rfl | rfl
            · exact g3
            · exact g4
            · exact g5
            · exact g6
            · exact g7
            · exact god
      · rintro σ ⟨ws, dk3, z4, z5, hd3, wl3, wg, rfl⟩
        rw [List.length_map, nl'] at wl3
        walk_at "vs"
        refine for_inv (fun i σ => ∃ (z6 : Option W), σ = [some (.v (.scr (ns.map D.int))), some (.v (.int c)), some dk3, some (.l ws), z4, z5, z6]) ⟨_, rfl⟩ (fun _ _ _ h => by obtain ⟨z6, rfl⟩ := h; rfl) ?_ ?_
        · rintro i d σ ei ⟨z6, rfl⟩
          have gd := wg d (List.mem_of_getElem? ei)
          walk_at "vi"
          refine w_law_is_name gd ?_
          walk_at "vs"
          refine w_told gd ?_
          walk_at "vs"
          exact ⟨_, rfl⟩
        · rintro σ ⟨z6, rfl⟩
          exact ⟨_, _, _, _, _, _, rfl⟩
    · rintro σ ⟨z1, z2, z3, z4, z5, z6, rfl⟩
      walk_at "vs"
  obtain ⟨w, ws', e, rfl⟩ := main.ex
  exact ⟨ws', e⟩
end LK
end
section
namespace LK
open PySem L2 FL
/-! ### the text by places -/
def top (i : Nat) : Stmt := PySem.Challenge.pw_quotahours_k01_names.main.body.getD i (.Pass ⟨0, 0, 0, 0⟩)
abbrev s_is_name : Stmt := (top 3)
abbrev s_law_deck : Stmt := (top 5)
abbrev s_law_draw : Stmt := (top 6)
abbrev s_law_told : Stmt := (top 7)
abbrev s_law_sign : Stmt := (top 8)
abbrev s_law_words : Stmt := (top 9)
abbrev s_law_is_name : Stmt := (top 10)
abbrev s_law_odd : Stmt := (top 11)
abbrev s_law : Stmt := (top 12)
/-! ### names that the text leaves to Python -/
structure Nm (mg : Str → Option Value) : Prop where
  b_all : mg "all" = none
  b_bool : mg "bool" = none
  b_int : mg "int" = none
  b_isinstance : mg "isinstance" = none
  b_len : mg "len" = none
  b_range : mg "range" = none
  b_repr : mg "repr" = none
  b_str : mg "str" = none
  c_LETTERS : ∃ t, mg "LETTERS" = some (.str "abcdefghijklmnopqrstuvwxyz" t)
  c_LONGEST : ∃ t, mg "LONGEST" = some (.int 8 t)

section
variable {P : Program} {w : World} {K : Fg} {mg : Str → Option Value} {base : Heap}
theorem sc_is_name : FnScope ["thing", "sign"] ["thing"] (defScope s_is_name) := ⟨rfl, rfl, rfl, by decide +kernel, rfl, by decide +kernel, by decide +kernel⟩
set_option maxHeartbeats 8000000 in
theorem ok_is_name {f : Addr} {fd : FuncData}
    (F : FunA K "is_name" "is_name" s_is_name f fd)
    (B : Nm mg)
    (SM : ∃ o, base.get? sysModules = some o) :
    FnD P w K mg base CX0 1 f fd ["thing"] (spV 1 F_is_name) := by
  have nd := sc_is_name.nd
  refine fnD F sc_is_name (fun _ _ _ _ q => q.1) fun cdv A outer s H E hr gd => ⟨_, (s_cons (s_if (t_w (w_or (t_not (t_val (d_callB o_isi rfl B.b_isinstance b_isinstance (da_cons (dv 0) (da_cons (d_ty rfl B.b_str b_str) da_nil))))) (w_or1 (t_not (t_chain o_le o_le d_int (d_callB o_len rfl B.b_len b_len (da_cons (dv 0) da_nil)) (d_gI B.c_LONGEST))))))
            (s_one (s_ret d_bl))
            s_nil)
        (s_one (s_ret (d_callB (o_all rfl) rfl B.b_all b_all (da_cons (d_lcW (own := [("sign", 1)]) (c := .one 1) rfl nd (i_str (dv 0))
        (blkOk_by (by kernel_rfl)) (by decide)
        (fun _ _ _ _ _ => (pg_name (i := 1) nd rfl (Or.inl rfl)))
        (fun _ _ _ _ _ => ts_nil)
        (fun _ _ _ _ _ => (d_cmp o_in (dv 1) (d_gS B.c_LETTERS)))) da_nil))))), ?_⟩
  exact v_fn (refs := []) (x := X_is_name) (m := 2)
    (v_seq (v_ifS (v_or (v_not (v_b (v_ba2 ba_isi v_var v_k))) (v_not (v_b (v_chain b_le b_le v_k (v_ba1 ba_len (SE.r v_var)) v_k))))
            (v_ret (SE.f v_k))
            v_next)
        (v_ret (SE.f (v_ba1 ba_all (SF.r (v_lc (P := []) (v_iS v_var) (by decide) (by decide) v_yes (v_op b_in v_var (SE.r v_k)))))))) rfl
theorem sc_law_deck : FnScope ["_law_cell"] ["_law_cell"] (defScope s_law_deck) := ⟨rfl, rfl, rfl, by decide +kernel, rfl, by decide +kernel, by decide +kernel⟩
set_option maxHeartbeats 8000000 in
theorem ok_law_deck {f : Addr} {fd : FuncData}
    (F : FunA K "_law_deck" "_law_deck" s_law_deck f fd)
    (B : Nm mg)
    (SM : ∃ o, base.get? sysModules = some o) :
    FnD P w K mg base CX0 1 f fd ["_law_cell"] (spV 1 F_law_deck) := by
  have nd := sc_law_deck.nd
  refine fnD F sc_law_deck (fun _ _ _ _ q => q.1) fun cdv A outer s H E hr gd => ⟨_, (s_one (s_ret (d_lstN (da_cons (d_bin o_mul (dv 0) (d_callTy o_int rfl B.b_int b_int (da_cons (d_cmp o_ge (dv 0) (d_bin o_pow d_int d_int)) da_nil))) (da_cons (d_bin o_mod (dv 0) d_int) (da_cons d_int da_nil)))))), ?_⟩
  exact v_fn (refs := []) (x := X_law_deck) (m := 1)
    (v_ret (v_lstN (v_acons (v_op b_mul v_var (SE.r (v_ba1 ba_int (SE.r (v_op b_ge v_var (SE.r (v_op b_pow v_k (SE.r v_k)))))))) (v_acons (v_op b_mod v_var (SE.r v_k)) (v_acons v_k v_anil))))) rfl
theorem sc_law_draw : FnScope ["_law_deck_here", "_law_bound", "_law_got", "_law_mixed"] ["_law_deck_here", "_law_bound"] (defScope s_law_draw) := ⟨rfl, rfl, rfl, by decide +kernel, rfl, by decide +kernel, by decide +kernel⟩
set_option maxHeartbeats 8000000 in
theorem ok_law_draw {f : Addr} {fd : FuncData}
    (F : FunA K "_law_draw" "_law_draw" s_law_draw f fd)
    (B : Nm mg)
    (SM : ∃ o, base.get? sysModules = some o) :
    FnD P w K mg base CX0 1 f fd ["_law_deck_here", "_law_bound"] (spV 2 F_law_draw) := by
  have nd := sc_law_draw.nd
  refine fnD F sc_law_draw (fun _ _ _ _ q => q.1) fun cdv A outer s H E hr gd => ⟨_, (s_cons (s_if (t_cmp o_gt (d_ix (dv 0) d_int) d_int)
            (s_cons (s_set (i := 2) nd rfl (Or.inl rfl) (d_bin o_mod (d_ix (dv 0) d_int) (dv 1)))
            (s_cons (s_asg (d_bin o_div (d_ix (dv 0) d_int) (dv 1)) (g_subL (dv 0) d_int))
            (s_one (s_ret (dv 2)))))
            s_nil)
        (s_cons (s_asg (d_bin o_add (d_ix (dv 0) d_int) d_int) (g_subL (dv 0) d_int))
        (s_cons (s_set (i := 3) nd rfl (Or.inl rfl) (d_bin o_mod (d_bin o_mul (d_bin o_add (d_bin o_add (d_ix (dv 0) d_int) (d_bin o_mul d_int (d_ix (dv 0) d_int))) d_int) d_int) d_int))
        (s_cons (s_set (i := 3) nd rfl (Or.inl rfl) (d_bin o_mod (d_bin o_add (d_bin o_add (d_bin o_mul (dv 3) (dv 3)) (d_bin o_mul d_int (dv 3))) (d_ix (dv 0) d_int)) d_int))
        (s_one (s_ret (d_bin o_mod (d_bin o_div (d_bin o_mod (d_bin o_mul (dv 3) d_int) d_int) d_int) (dv 1)))))))), ?_⟩
  exact v_fn (refs := [0]) (x := X_law_draw) (m := 4)
    (v_seq (v_ifS (v_b (v_op b_gt (v_opP b_ix (SE.r v_k)) (SE.r v_k)))
            (v_seq (v_asg (v_op b_mod (v_opP b_ix (SE.r v_k)) (SE.r v_var)) (v_gN (by decide)))
            (v_seq (v_setL (v_op b_div (v_opP b_ix (SE.r v_k)) (SE.r v_var)) v_k)
            (v_ret (SE.f v_var))))
            v_next)
        (v_seq (v_setL (v_op b_add (v_opP b_ix (SE.r v_k)) (SE.r v_k)) v_k)
        (v_seq (v_asg (v_op b_mod (v_op b_mul (v_op b_add (v_op b_add (v_opP b_ix (SE.r v_k)) (SE.r (v_op b_mul v_k (SE.r (v_opP b_ix (SE.r v_k)))))) (SE.r v_k)) (SE.r v_k)) (SE.r v_k)) (v_gN (by decide)))
        (v_seq (v_asg (v_op b_mod (v_op b_add (v_op b_add (v_op b_mul v_var (SE.r v_var)) (SE.r (v_op b_mul v_k (SE.r v_var)))) (SE.r (v_opP b_ix (SE.r v_k)))) (SE.r v_k)) (v_gN (by decide)))
        (v_ret (SE.f (v_op b_mod (v_op b_div (v_op b_mod (v_op b_mul v_var (SE.r v_k)) (SE.r v_k)) (SE.r v_k)) (SE.r v_var)))))))) rfl
theorem sc_law_told : FnScope ["_law_query", "_law_thing", "_law_due", "_law_written", "_law_turn", "_law_found"] ["_law_query", "_law_thing", "_law_due"] (defScope s_law_told) := ⟨rfl, rfl, rfl, by decide +kernel, rfl, by decide +kernel, by decide +kernel⟩
set_option maxHeartbeats 8000000 in
theorem ok_law_told {f : Addr} {fd : FuncData} {fq : Addr}
    (F : FunA K "_law_told" "_law_told" s_law_told f fd)
    (B : Nm mg)
    (SM : ∃ o, base.get? sysModules = some o)
    (G_is_name : GAt P w K mg base 1 "is_name" fq 1 (spV 1 F_is_name)) :
    FnD P w K mg base CX0 2 f fd ["_law_query", "_law_thing", "_law_due"] (spV 3 (F_law_told fq)) := by
  have nd := sc_law_told.nd
  refine fnD F sc_law_told (fun _ _ _ _ q => q.1) fun cdv A outer s H E hr gd => ⟨_, (s_cons (s_set (i := 3) nd rfl (Or.inl rfl) (d_callB (o_reprX hr gd SM) rfl B.b_repr b_repr (da_cons (dv 1) da_nil)))
        (s_cons (s_for PassesOwn.never rfl (i_range1 rfl B.b_range d_int) (g_name (i := 4) nd rfl (Or.inl rfl))
            (s_cons (s_set (i := 5) nd rfl (Or.inl rfl) (d_fnL 0 G_is_name (hr.mono (by decide)) gd (da_cons (dv 1) da_nil)))
            (s_one (s_if (t_w (w_or (t_not (t_val (d_callB o_isi rfl B.b_isinstance b_isinstance (da_cons (dv 5) (da_cons (d_ty rfl B.b_bool b_bool) da_nil))))) (w_or1 (t_cmp (o_ne hr.units) (dv 5) (dv 2)))))
                (s_one (s_ret d_bl))
                s_nil))))
        (s_one (s_ret (d_cmp (o_eq hr.units) (d_callB (o_reprX hr gd SM) rfl B.b_repr b_repr (da_cons (dv 1) da_nil)) (dv 3)))))), ?_⟩
  exact v_fn (refs := []) (x := (X_law_told fq)) (m := 6)
    (v_seq (v_asg (v_reprX v_var) (v_gN (by decide)))
        (v_seq (v_for (v_iR1 v_k) (v_gN (by decide))
            (v_seq (v_asg (SF.e (v_callL (v_arEx (SE.f v_var) v_arNil))) (v_gN (by decide)))
            (v_ifS (v_or (v_not (v_b (v_ba2 ba_isi v_var v_k))) (v_b (v_op b_ne v_var (SE.r v_var))))
                (v_ret (SE.f v_k))
                v_next)))
        (v_ret (SE.f (v_op b_eq (v_reprX v_var) (SE.r v_var)))))) rfl
theorem sc_law_sign : FnScope ["_law_deck_here", "_law_some"] ["_law_deck_here"] (defScope s_law_sign) := ⟨rfl, rfl, rfl, by decide +kernel, rfl, by decide +kernel, by decide +kernel⟩
set_option maxHeartbeats 8000000 in
theorem ok_law_sign {f : Addr} {fd : FuncData}
    (F : FunA K "_law_sign" "_law_sign" s_law_sign f fd)
    (B : Nm mg)
    (SM : ∃ o, base.get? sysModules = some o)
    (G_law_draw : GFn P w K mg base 1 "_law_draw" 2 (spV 2 F_law_draw)) :
    FnD P w K mg base CX0 2 f fd ["_law_deck_here"] (spV 1 F_law_sign) := by
  have nd := sc_law_sign.nd
  refine fnD F sc_law_sign (fun _ _ _ _ q => q.1) fun cdv A outer s H E hr gd => ⟨_, (s_cons (s_set (i := 1) nd rfl (Or.inl rfl) d_str)
        (s_cons (s_set (i := 1) nd rfl (Or.inl rfl) (d_bin o_add (dv 1) (d_bin o_mulS d_str d_int)))
        (s_one (s_ret (d_ix (dv 1) (d_fn G_law_draw (hr.mono (by decide)) gd rfl (da_cons (dv 0) (da_cons (d_callB o_len rfl B.b_len b_len (da_cons (dv 1) da_nil)) da_nil)))))))), ?_⟩
  exact v_fn (refs := [0]) (x := X_law_sign) (m := 2)
    (v_seq (v_asg v_k (v_gN (by decide)))
        (v_seq (v_asg (v_op b_add v_var (SE.r (v_op b_mulS v_k (SE.r v_k)))) (v_gN (by decide)))
        (v_ret (SE.f (v_op b_ix v_var (SF.r (v_call (v_arRf (v_arEx (SE.f (v_ba1 ba_len (SE.r v_var))) v_arNil))))))))) rfl
theorem sc_law_words : FnScope ["_law_deck_here", "_law_many", "_law_letters", "_law_way", "_law_word", "_law_base", "_law_at", "_law_first", "_law_k"] ["_law_deck_here", "_law_many"] (defScope s_law_words) := ⟨rfl, rfl, rfl, by decide +kernel, rfl, by decide +kernel, by decide +kernel⟩
set_option maxHeartbeats 8000000 in
theorem ok_law_words {f : Addr} {fd : FuncData}
    (F : FunA K "_law_words" "_law_words" s_law_words f fd)
    (B : Nm mg)
    (SM : ∃ o, base.get? sysModules = some o)
    (G_law_draw : GFn P w K mg base 1 "_law_draw" 2 (spV 2 F_law_draw)) :
    FnD P w K mg base CX0 2 f fd ["_law_deck_here", "_law_many"] (spV 2 F_law_words) := by
  have nd := sc_law_words.nd
  refine fnD F sc_law_words (fun _ _ _ _ q => q.1) fun cdv A outer s H E hr gd => ⟨_, (s_cons (s_set (i := 2) nd rfl (Or.inr rfl) d_str)
        (s_cons (s_set (i := 3) nd rfl (Or.inl rfl) (d_fn G_law_draw (hr.mono (by decide)) gd rfl (da_cons (dv 0) (da_cons d_int da_nil))))
        (s_cons (s_set (i := 4) nd rfl (Or.inr rfl) (d_bm PySem.F.plainAttrs_str PySem.F.slot_str_join PySem.F.type_str_join o_join d_str (da_cons (d_lcW (own := [("_law_k", 8)]) (c := .one 8) rfl nd (i_range1 rfl B.b_range (d_bin o_add d_int (d_fn G_law_draw (hr.mono (by decide)) gd rfl (da_cons (dv 0) (da_cons d_int da_nil)))))
        (blkOk_by (by kernel_rfl)) (by decide)
        (fun _ _ _ _ _ => (pg_name (i := 8) nd rfl (Or.inl rfl)))
        (fun _ _ _ _ _ => ts_nil)
        (fun _ _ _ _ _ => (d_ix (dv 2) (d_fn G_law_draw (hr.mono (by decide)) gd rfl (da_cons (dv 0) (da_cons d_int da_nil)))))) da_nil)))
        (s_cons (s_if (t_w (w_and (t_cmp (o_eq hr.units) (dv 3) d_int) (w_and1 (t_cmp o_lt (dv 1) d_int))))
            (s_cons (s_set (i := 5) nd rfl (Or.inr rfl) (d_sl (d_bin o_add (dv 4) d_str) do_none (do_some d_int)))
            (s_one (s_ret (d_lcW (own := [("_law_k", 8)]) (c := .one 8) rfl nd (i_range1 rfl B.b_range (dv 1))
        (blkOk_by (by kernel_rfl)) (by decide)
        (fun _ _ _ _ _ => (pg_name (i := 8) nd rfl (Or.inl rfl)))
        (fun _ _ _ _ _ => ts_nil)
        (fun _ _ _ _ _ => (d_sl (dv 5) do_none (do_some (d_bin o_add d_int (dv 8)))))))))
            s_nil)
        (s_cons (s_set (i := 6) nd rfl (Or.inr rfl) (d_fn G_law_draw (hr.mono (by decide)) gd rfl (da_cons (dv 0) (da_cons (d_callB o_len rfl B.b_len b_len (da_cons (dv 4) da_nil)) da_nil))))
        (s_cons (s_set (i := 7) nd rfl (Or.inr rfl) (d_fn G_law_draw (hr.mono (by decide)) gd rfl (da_cons (dv 0) (da_cons d_int da_nil))))
        (s_one (s_ret (d_lcW (own := [("_law_k", 8)]) (c := .one 8) rfl nd (i_range1 rfl B.b_range (dv 1))
        (blkOk_by (by kernel_rfl)) (by decide)
        (fun _ _ _ _ _ => (pg_name (i := 8) nd rfl (Or.inl rfl)))
        (fun _ _ _ _ _ => ts_nil)
        (fun _ _ _ _ _ => (d_bin o_add (d_bin o_add (d_sl (dv 4) do_none (do_some (dv 6))) (d_ix (dv 2) (d_bin o_mod (d_bin o_add (dv 7) (d_bin o_mul d_int (dv 8))) d_int))) (d_sl (dv 4) (do_some (d_bin o_add (dv 6) d_int)) do_none)))))))))))), ?_⟩
  exact v_fn (refs := [0]) (x := X_law_words) (m := 9)
    (v_seq (v_asg v_k (v_gN (by decide)))
        (v_seq (v_asg (SF.e (v_call (v_arRf (v_arEx (SE.f v_k) v_arNil)))) (v_gN (by decide)))
        (v_seq (v_asg (v_join (SF.r (v_lc (P := []) (v_iR1 (v_op b_add v_k (SF.r (v_call (v_arRf (v_arEx (SE.f v_k) v_arNil)))))) (by decide) (by decide) v_yes (v_op b_ix v_var (SF.r (v_call (v_arRf (v_arEx (SE.f v_k) v_arNil)))))))) (v_gN (by decide)))
        (v_seq (v_ifS (v_and (v_b (v_op b_eq v_var (SE.r v_k))) (v_b (v_op b_lt v_var (SE.r v_k))))
            (v_seq (v_asg (v_sl (v_op b_add v_var (SE.r v_k)) v_no (v_pt v_k)) (v_gN (by decide)))
            (v_ret (v_lc (P := []) (v_iR1 v_var) (by decide) (by decide) v_yes (v_sl v_var v_no (v_pt (v_op b_add v_k (SE.r v_var)))))))
            v_next)
        (v_seq (v_asg (SF.e (v_call (v_arRf (v_arEx (SE.f (v_ba1 ba_len (SE.r v_var))) v_arNil)))) (v_gN (by decide)))
        (v_seq (v_asg (SF.e (v_call (v_arRf (v_arEx (SE.f v_k) v_arNil)))) (v_gN (by decide)))
        (v_ret (v_lc (P := []) (v_iR1 v_var) (by decide) (by decide) v_yes (v_op b_add (v_op b_add (v_sl v_var v_no (v_pt v_var)) (SE.r (v_op b_ix v_var (SE.r (v_op b_mod (v_op b_add v_var (SE.r (v_op b_mul v_k (SE.r v_var)))) (SE.r v_k)))))) (SE.r (v_sl v_var (v_pt (v_op b_add v_var (SE.r v_k))) v_no))))))))))) rfl
theorem sc_law_is_name : FnScope ["_law_thing", "_law_sign_here"] ["_law_thing"] (defScope s_law_is_name) := ⟨rfl, rfl, rfl, by decide +kernel, rfl, by decide +kernel, by decide +kernel⟩
set_option maxHeartbeats 8000000 in
theorem ok_law_is_name {f : Addr} {fd : FuncData}
    (F : FunA K "_law_is_name" "_law_is_name" s_law_is_name f fd)
    (B : Nm mg)
    (SM : ∃ o, base.get? sysModules = some o) :
    FnD P w K mg base CX0 1 f fd ["_law_thing"] (spV 1 F_law_is_name) := by
  have nd := sc_law_is_name.nd
  refine fnD F sc_law_is_name (fun _ _ _ _ q => q.1) fun cdv A outer s H E hr gd => ⟨_, (s_cons (s_if (t_w (w_or (t_not (t_val (d_callB o_isi rfl B.b_isinstance b_isinstance (da_cons (dv 0) (da_cons (d_ty rfl B.b_str b_str) da_nil))))) (w_or1 (t_not (t_chain o_lt o_lt d_int (d_callB o_len rfl B.b_len b_len (da_cons (dv 0) da_nil)) d_int)))))
            (s_one (s_ret d_bl))
            s_nil)
        (s_one (s_ret (d_cmp (o_eq hr.units) (d_lcW (own := [("_law_sign_here", 1)]) (c := .one 1) rfl nd (i_str (dv 0))
        (blkOk_by (by kernel_rfl)) (by decide)
        (fun _ _ _ _ _ => (pg_name (i := 1) nd rfl (Or.inl rfl)))
        (fun _ _ _ _ _ => (ts_one (t_cmp o_notIn (dv 1) d_str)))
        (fun _ _ _ _ _ => (dv 1))) (d_lst da_nil))))), ?_⟩
  exact v_fn (refs := []) (x := X_law_is_name) (m := 2)
    (v_seq (v_ifS (v_or (v_not (v_b (v_ba2 ba_isi v_var v_k))) (v_not (v_b (v_chain b_lt b_lt v_k (v_ba1 ba_len (SE.r v_var)) v_k))))
            (v_ret (SE.f v_k))
            v_next)
        (v_ret (SE.f (v_opF b_eq (v_lc (P := []) (v_iS v_var) (by decide) (by decide) (v_b (v_op b_in v_var (SE.r v_k))) v_var) (SE.r (v_lst v_anil)))))) rfl
theorem sc_law_odd : FnScope ["_law_deck_here", "_law_deep", "_law_k", "_law_some"] ["_law_deck_here"] (defScope s_law_odd) := ⟨rfl, rfl, rfl, by decide +kernel, rfl, by decide +kernel, by decide +kernel⟩
set_option maxHeartbeats 8000000 in
theorem ok_law_odd {f : Addr} {fd : FuncData}
    (F : FunA K "_law_odd" "_law_odd" s_law_odd f fd)
    (B : Nm mg)
    (SM : ∃ o, base.get? sysModules = some o)
    (G_law_draw : GFn P w K mg base 1 "_law_draw" 2 (spV 2 F_law_draw)) :
    FnD P w K mg base CX0 2 f fd ["_law_deck_here"] (spV 1 F_law_odd) := by
  have nd := sc_law_odd.nd
  refine fnD F sc_law_odd (fun _ _ _ _ q => q.1) fun cdv A outer s H E hr gd => ⟨_, (s_cons (s_set (i := 1) nd rfl (Or.inl rfl) d_int)
        (s_cons (s_for PassesOwn.never rfl (i_range1 rfl B.b_range d_int) (g_name (i := 2) nd rfl (Or.inl rfl))
            (s_one (s_set (i := 1) nd rfl (Or.inl rfl) (d_ix (d_lst (da_cons (d_tup (da_cons (dv 1) da_nil)) (da_cons (d_lst (da_cons (dv 1) da_nil)) (da_cons (d_dispV d_int (dv 1)) da_nil)))) (d_fn G_law_draw (hr.mono (by decide)) gd rfl (da_cons (dv 0) (da_cons d_int da_nil)))))))
        (s_cons (s_set (i := 3) nd rfl (Or.inl rfl) (d_lstN (da_cons d_non (da_cons d_bl (da_cons d_bl (da_cons d_int (da_cons d_int (da_cons (d_un o_neg d_int) (da_cons d_int (da_cons d_int (da_cons d_int (da_cons d_int (da_cons d_int (da_cons d_int (da_cons (d_bin o_pow d_int d_int) (da_cons d_str (da_cons d_str (da_cons d_str (da_cons d_str (da_cons d_str (da_cons d_str (da_cons (d_tup da_nil) da_nil))))))))))))))))))))))
        (s_cons (s_set (i := 3) nd rfl (Or.inl rfl) (d_bin o_addN (dv 3) (d_lst (da_cons (d_tup (da_cons d_int da_nil)) (da_cons (d_tup (da_cons d_str da_nil)) (da_cons (d_lst da_nil) (da_cons (d_lst (da_cons d_str da_nil)) (da_cons d_dnew (da_cons (d_dispV d_int d_int) (da_cons (dv 1) (da_cons (d_tup (da_cons (d_tup da_nil) da_nil)) (da_cons (d_tup (da_cons d_int (da_cons d_int (da_cons d_int (da_cons d_int da_nil))))) (da_cons d_str (da_cons (d_tup (da_cons d_str (da_cons d_non (da_cons d_int (da_cons d_int (da_cons d_int da_nil)))))) da_nil))))))))))))))
        (s_cons (s_expr (d_bm PySem.F.plainAttrs_list PySem.F.slot_list_append PySem.F.type_list_append o_append (dv 3) (da_cons (d_tup (da_cons d_str (da_cons d_str (da_cons d_int (da_cons d_int da_nil))))) da_nil)))
        (s_one (s_ret (d_ix (dv 3) (d_fn G_law_draw (hr.mono (by decide)) gd rfl (da_cons (dv 0) (da_cons (d_callB o_len rfl B.b_len b_len (da_cons (dv 3) da_nil)) da_nil))))))))))), ?_⟩
  exact v_fn (refs := [0]) (x := X_law_odd) (m := 4)
    (v_seq (v_asg v_k (v_gN (by decide)))
        (v_seq (v_for (v_iR1 v_k) (v_gN (by decide))
            (v_asg (v_op b_ix (v_lst (v_acons (v_tup (v_acons v_var v_anil)) (v_acons (v_lst (v_acons v_var v_anil)) (v_acons (v_dispV q_k q_var) v_anil)))) (SF.r (v_call (v_arRf (v_arEx (SE.f v_k) v_arNil))))) (v_gN (by decide))))
        (v_seq (v_asgF (by decide) (v_lstN (v_acons v_k (v_acons v_k (v_acons v_k (v_acons v_k (v_acons v_k (v_acons (v_un b_neg (SE.r v_k)) (v_acons v_k (v_acons v_k (v_acons v_k (v_acons v_k (v_acons v_k (v_acons v_k (v_acons (v_op b_pow v_k (SE.r v_k)) (v_acons v_k (v_acons v_k (v_acons v_k (v_acons v_k (v_acons v_k (v_acons v_k (v_acons (v_tup v_anil) v_anil))))))))))))))))))))))
        (v_seq (v_asgF (by decide) (v_addN (v_lst (v_acons (v_tup (v_acons v_k v_anil)) (v_acons (v_tup (v_acons v_k v_anil)) (v_acons (v_lst v_anil) (v_acons (v_lst (v_acons v_k v_anil)) (v_acons v_dnewV (v_acons (v_dispV q_k q_k) (v_acons v_var (v_acons (v_tup (v_acons (v_tup v_anil) v_anil)) (v_acons (v_tup (v_acons v_k (v_acons v_k (v_acons v_k (v_acons v_k v_anil))))) (v_acons v_k (v_acons (v_tup (v_acons v_k (v_acons v_k (v_acons v_k (v_acons v_k (v_acons v_k v_anil)))))) v_anil))))))))))))))
        (v_seq (v_drop (SE.r (v_app (v_tup (v_acons v_k (v_acons v_k (v_acons v_k (v_acons v_k v_anil))))))))
        (v_ret (SE.f (v_opP b_ix (SF.r (v_call (v_arRf (v_arEx (SE.f (v_ba1 ba_len v_rd)) v_arNil)))))))))))) rfl
theorem sc_law : FnScope ["_law_script", "_law_cell", "_law_deck_here", "_law_things", "_law_name", "_law_at", "_law_thing"] ["_law_script"] (defScope s_law) := ⟨rfl, rfl, rfl, by decide +kernel, rfl, by decide +kernel, by decide +kernel⟩
set_option maxHeartbeats 8000000 in
theorem ok_law {f : Addr} {fd : FuncData} {fq : Addr}
    (F : FunA K "law" "law" s_law f fd)
    (B : Nm mg)
    (SM : ∃ o, base.get? sysModules = some o)
    (G_law_deck : GFn P w K mg base 1 "_law_deck" 1 (spV 1 F_law_deck))
    (G_law_words : GFn P w K mg base 2 "_law_words" 2 (spV 2 F_law_words))
    (G_law_draw : GFn P w K mg base 1 "_law_draw" 2 (spV 2 F_law_draw))
    (G_law_sign : GFn P w K mg base 2 "_law_sign" 1 (spV 1 F_law_sign))
    (G_law_odd : GFn P w K mg base 2 "_law_odd" 1 (spV 1 F_law_odd))
    (G_law_told : GFn P w K mg base 2 "_law_told" 3 (spV 3 (F_law_told fq)))
    (G_law_is_name : GFn P w K mg base 1 "_law_is_name" 1 (spV 1 F_law_is_name))
    (G_is_name : GAt P w K mg base 1 "is_name" fq 1 (spV 1 F_is_name)) :
    FnD P w K mg base CX0 3 f fd ["_law_script"] spLaw := by
  have nd := sc_law.nd
  refine fnD F sc_law (fun _ _ _ _ q => by obtain ⟨ns, rfl, _⟩ := q; rfl) fun cdv A outer s H E hr gd => ⟨_, (s_cons (s_for PassesOwn.never rfl (i_seq (d_bin o_add (d_sl (dv 0) do_none (do_some d_int)) (d_lst (da_cons d_int da_nil)))) (g_name (i := 1) nd rfl (Or.inl rfl))
            (s_cons (s_set (i := 2) nd rfl (Or.inl rfl) (d_fn G_law_deck (hr.mono (by decide)) gd rfl (da_cons (dv 1) da_nil)))
            (s_cons (s_set (i := 3) nd rfl (Or.inl rfl) (d_lstN (da_cons d_str (da_cons d_str (da_cons d_str (da_cons d_str (da_cons d_str (da_cons d_str (da_cons d_str (da_cons d_str (da_cons d_str (da_cons d_str (da_cons d_str (da_cons d_non (da_cons d_int (da_cons d_bl (da_cons (d_tup (da_cons d_str da_nil)) da_nil)))))))))))))))))
            (s_cons (s_for PassesOwn.never rfl (i_seq (d_fn G_law_words (hr.mono (by decide)) gd rfl (da_cons (dv 2) (da_cons d_int da_nil)))) (g_name (i := 4) nd rfl (Or.inl rfl))
                (s_cons (s_set (i := 5) nd rfl (Or.inl rfl) (d_fn G_law_draw (hr.mono (by decide)) gd rfl (da_cons (dv 2) (da_cons (d_bin o_add (d_callB o_len rfl B.b_len b_len (da_cons (dv 4) da_nil)) d_int) da_nil))))
                (s_cons (s_expr (d_bm PySem.F.plainAttrs_list PySem.F.slot_list_append PySem.F.type_list_append o_append (dv 3) (da_cons (d_bin o_add (d_bin o_add (d_sl (dv 4) do_none (do_some (dv 5))) (d_fn G_law_sign (hr.mono (by decide)) gd rfl (da_cons (dv 2) da_nil))) (d_sl (dv 4) (do_some (dv 5)) do_none)) da_nil)))
                (s_cons (s_set (i := 3) nd rfl (Or.inl rfl) (d_bin o_addN (dv 3) (d_lst (da_cons (dv 4) (da_cons (d_bin o_add (d_bin o_add (d_sl (dv 4) do_none (do_some (dv 5))) (d_fn G_law_sign (hr.mono (by decide)) gd rfl (da_cons (dv 2) da_nil))) (d_sl (dv 4) (do_some (d_bin o_add (dv 5) d_int)) do_none)) da_nil)))))
                (s_one (s_set (i := 3) nd rfl (Or.inl rfl) (d_bin o_addN (dv 3) (d_lst (da_cons (d_bin o_add (d_sl (dv 4) do_none (do_some (dv 5))) (d_sl (dv 4) (do_some (d_bin o_add (dv 5) d_int)) do_none)) (da_cons (d_bm0 PySem.F.plainAttrs_str PySem.F.slot_str_upper PySem.F.type_str_upper o_upper (dv 4)) (da_cons (d_bin o_add (dv 4) (dv 4)) (da_cons (d_tup (da_cons (dv 4) da_nil)) (da_cons (d_dispV (dv 4) d_int) (da_cons (d_fn G_law_odd (hr.mono (by decide)) gd rfl (da_cons (dv 2) da_nil)) da_nil))))))))))))))
            (s_one (s_for PassesOwn.never rfl (i_seq (dv 3)) (g_name (i := 6) nd rfl (Or.inl rfl))
                (s_one (s_if (t_not (t_val (d_fn G_law_told (hr.mono (by decide)) gd rfl (da_cons (d_fnv G_is_name rfl) (da_cons (dv 6) (da_cons (d_fn G_law_is_name (hr.mono (by decide)) gd rfl (da_cons (dv 6) da_nil)) da_nil))))))
                    (s_one (s_ret d_bl))
                    s_nil))))))))
        (s_one (s_ret d_bl))), ?_⟩
  exact v_law (x := (X_law fq)) (m := 7)
    (v_seq (v_for (v_iL (v_op b_add (v_sl v_var v_no (v_pt v_k)) (SE.r (v_lst (v_acons v_k v_anil))))) (v_gN (by decide))
            (v_seq (v_asgF (by decide) (v_call (v_arEx (SE.f v_var) v_arNil)))
            (v_seq (v_asgF (by decide) (v_lstN (v_acons v_k (v_acons v_k (v_acons v_k (v_acons v_k (v_acons v_k (v_acons v_k (v_acons v_k (v_acons v_k (v_acons v_k (v_acons v_k (v_acons v_k (v_acons v_k (v_acons v_k (v_acons v_k (v_acons (v_tup (v_acons v_k v_anil)) v_anil)))))))))))))))))
            (v_seq (v_for (v_iF (v_call (v_arRf (v_arEx (SE.f v_k) v_arNil)))) (v_gN (by decide))
                (v_seq (v_asg (SF.e (v_call (v_arRf (v_arEx (SE.f (v_op b_add (v_ba1 ba_len (SE.r v_var)) (SE.r v_k))) v_arNil)))) (v_gN (by decide)))
                (v_seq (v_drop (SE.r (v_app (v_op b_add (v_op b_add (v_sl v_var v_no (v_pt v_var)) (SF.r (v_call (v_arRf v_arNil)))) (SE.r (v_sl v_var (v_pt v_var) v_no))))))
                (v_seq (v_asgF (by decide) (v_addN (v_lst (v_acons v_var (v_acons (v_op b_add (v_op b_add (v_sl v_var v_no (v_pt v_var)) (SF.r (v_call (v_arRf v_arNil)))) (SE.r (v_sl v_var (v_pt (v_op b_add v_var (SE.r v_k))) v_no))) v_anil)))))
                (v_asgF (by decide) (v_addN (v_lst (v_acons (v_op b_add (v_sl v_var v_no (v_pt v_var)) (SE.r (v_sl v_var (v_pt (v_op b_add v_var (SE.r v_k))) v_no))) (v_acons (v_upper v_var) (v_acons (v_op b_add v_var (SE.r v_var)) (v_acons (v_tup (v_acons v_var v_anil)) (v_acons (v_dispV q_var q_k) (v_acons (SF.e (v_call (v_arRf v_arNil))) v_anil)))))))))))))
            (v_weak (P' := [3]) (by decide) (v_for (v_iP (by decide)) (v_gN (by decide))
                (v_ifS (v_not (v_b (SF.e (v_call (v_arEx (SE.f v_k) (v_arEx (SE.f v_var) (v_arEx (v_call (v_arEx (SE.f v_var) v_arNil)) v_arNil)))))))
                    (v_ret (SE.f v_k))
                    v_next)))))))
        (v_ret (SE.f v_k))) rfl (law_true fq)
end

theorem all_mk {l : PySem.W.OpenLaw} {w : World} {K : Fg} {h : Heap} {mg : Str → Option Value} {fa  : Addr} (X : K.In h) (G : h.Ns mainGlobals mg) (hfa : mg "law" = some (.ref fa))
    {f_is_name : Addr} {od_is_name an_is_name : Option Addr} {sl_is_name : Array (Option Value)} {oc_is_name kV_is_name dc_is_name pm_is_name cd_is_name ct_is_name : Value}
    {f_law_deck : Addr} {od_law_deck an_law_deck : Option Addr} {sl_law_deck : Array (Option Value)} {oc_law_deck kV_law_deck dc_law_deck pm_law_deck cd_law_deck ct_law_deck : Value}
    {f_law_draw : Addr} {od_law_draw an_law_draw : Option Addr} {sl_law_draw : Array (Option Value)} {oc_law_draw kV_law_draw dc_law_draw pm_law_draw cd_law_draw ct_law_draw : Value}
    {f_law_told : Addr} {od_law_told an_law_told : Option Addr} {sl_law_told : Array (Option Value)} {oc_law_told kV_law_told dc_law_told pm_law_told cd_law_told ct_law_told : Value}
    {f_law_sign : Addr} {od_law_sign an_law_sign : Option Addr} {sl_law_sign : Array (Option Value)} {oc_law_sign kV_law_sign dc_law_sign pm_law_sign cd_law_sign ct_law_sign : Value}
    {f_law_words : Addr} {od_law_words an_law_words : Option Addr} {sl_law_words : Array (Option Value)} {oc_law_words kV_law_words dc_law_words pm_law_words cd_law_words ct_law_words : Value}
    {f_law_is_name : Addr} {od_law_is_name an_law_is_name : Option Addr} {sl_law_is_name : Array (Option Value)} {oc_law_is_name kV_law_is_name dc_law_is_name pm_law_is_name cd_law_is_name ct_law_is_name : Value}
    {f_law_odd : Addr} {od_law_odd an_law_odd : Option Addr} {sl_law_odd : Array (Option Value)} {oc_law_odd kV_law_odd dc_law_odd pm_law_odd cd_law_odd ct_law_odd : Value}
    {f_law : Addr} {od_law an_law : Option Addr} {sl_law : Array (Option Value)} {oc_law kV_law dc_law pm_law cd_law ct_law : Value}
    (z_all : PySem.W.nsIn K mainGlobals "all" = some none)
    (z_bool : PySem.W.nsIn K mainGlobals "bool" = some none)
    (z_int : PySem.W.nsIn K mainGlobals "int" = some none)
    (z_isinstance : PySem.W.nsIn K mainGlobals "isinstance" = some none)
    (z_len : PySem.W.nsIn K mainGlobals "len" = some none)
    (z_range : PySem.W.nsIn K mainGlobals "range" = some none)
    (z_repr : PySem.W.nsIn K mainGlobals "repr" = some none)
    (z_str : PySem.W.nsIn K mainGlobals "str" = some none)
    {tk_LETTERS : Tok} (y_LETTERS : PySem.W.nsIn K mainGlobals "LETTERS" = some (some (.str "abcdefghijklmnopqrstuvwxyz" tk_LETTERS)))
    {tk_LONGEST : Tok} (y_LONGEST : PySem.W.nsIn K mainGlobals "LONGEST" = some (some (.int 8 tk_LONGEST)))
    (a_is_name : PySem.W.nsIn K mainGlobals "is_name" = some (some (.ref f_is_name)))
    (l_is_name : K.lookup f_is_name = some ⟨oc_is_name, od_is_name, .func (PySem.W.fnOf "is_name" "is_name" (defArgs s_is_name) (defBody s_is_name) (defScope s_is_name) .none kV_is_name dc_is_name pm_is_name an_is_name cd_is_name ct_is_name), sl_is_name⟩)
    (c_is_name : PySem.W.codeIn K cd_is_name "is_name" = true) (k_is_name : PySem.W.keepIn K (.ref f_is_name) = true)
    (a_law_deck : PySem.W.nsIn K mainGlobals "_law_deck" = some (some (.ref f_law_deck)))
    (l_law_deck : K.lookup f_law_deck = some ⟨oc_law_deck, od_law_deck, .func (PySem.W.fnOf "_law_deck" "_law_deck" (defArgs s_law_deck) (defBody s_law_deck) (defScope s_law_deck) .none kV_law_deck dc_law_deck pm_law_deck an_law_deck cd_law_deck ct_law_deck), sl_law_deck⟩)
    (c_law_deck : PySem.W.codeIn K cd_law_deck "_law_deck" = true) (k_law_deck : PySem.W.keepIn K (.ref f_law_deck) = true)
    (a_law_draw : PySem.W.nsIn K mainGlobals "_law_draw" = some (some (.ref f_law_draw)))
    (l_law_draw : K.lookup f_law_draw = some ⟨oc_law_draw, od_law_draw, .func (PySem.W.fnOf "_law_draw" "_law_draw" (defArgs s_law_draw) (defBody s_law_draw) (defScope s_law_draw) .none kV_law_draw dc_law_draw pm_law_draw an_law_draw cd_law_draw ct_law_draw), sl_law_draw⟩)
    (c_law_draw : PySem.W.codeIn K cd_law_draw "_law_draw" = true) (k_law_draw : PySem.W.keepIn K (.ref f_law_draw) = true)
    (a_law_told : PySem.W.nsIn K mainGlobals "_law_told" = some (some (.ref f_law_told)))
    (l_law_told : K.lookup f_law_told = some ⟨oc_law_told, od_law_told, .func (PySem.W.fnOf "_law_told" "_law_told" (defArgs s_law_told) (defBody s_law_told) (defScope s_law_told) .none kV_law_told dc_law_told pm_law_told an_law_told cd_law_told ct_law_told), sl_law_told⟩)
    (c_law_told : PySem.W.codeIn K cd_law_told "_law_told" = true) (k_law_told : PySem.W.keepIn K (.ref f_law_told) = true)
    (a_law_sign : PySem.W.nsIn K mainGlobals "_law_sign" = some (some (.ref f_law_sign)))
    (l_law_sign : K.lookup f_law_sign = some ⟨oc_law_sign, od_law_sign, .func (PySem.W.fnOf "_law_sign" "_law_sign" (defArgs s_law_sign) (defBody s_law_sign) (defScope s_law_sign) .none kV_law_sign dc_law_sign pm_law_sign an_law_sign cd_law_sign ct_law_sign), sl_law_sign⟩)
    (c_law_sign : PySem.W.codeIn K cd_law_sign "_law_sign" = true) (k_law_sign : PySem.W.keepIn K (.ref f_law_sign) = true)
    (a_law_words : PySem.W.nsIn K mainGlobals "_law_words" = some (some (.ref f_law_words)))
    (l_law_words : K.lookup f_law_words = some ⟨oc_law_words, od_law_words, .func (PySem.W.fnOf "_law_words" "_law_words" (defArgs s_law_words) (defBody s_law_words) (defScope s_law_words) .none kV_law_words dc_law_words pm_law_words an_law_words cd_law_words ct_law_words), sl_law_words⟩)
    (c_law_words : PySem.W.codeIn K cd_law_words "_law_words" = true) (k_law_words : PySem.W.keepIn K (.ref f_law_words) = true)
    (a_law_is_name : PySem.W.nsIn K mainGlobals "_law_is_name" = some (some (.ref f_law_is_name)))
    (l_law_is_name : K.lookup f_law_is_name = some ⟨oc_law_is_name, od_law_is_name, .func (PySem.W.fnOf "_law_is_name" "_law_is_name" (defArgs s_law_is_name) (defBody s_law_is_name) (defScope s_law_is_name) .none kV_law_is_name dc_law_is_name pm_law_is_name an_law_is_name cd_law_is_name ct_law_is_name), sl_law_is_name⟩)
    (c_law_is_name : PySem.W.codeIn K cd_law_is_name "_law_is_name" = true) (k_law_is_name : PySem.W.keepIn K (.ref f_law_is_name) = true)
    (a_law_odd : PySem.W.nsIn K mainGlobals "_law_odd" = some (some (.ref f_law_odd)))
    (l_law_odd : K.lookup f_law_odd = some ⟨oc_law_odd, od_law_odd, .func (PySem.W.fnOf "_law_odd" "_law_odd" (defArgs s_law_odd) (defBody s_law_odd) (defScope s_law_odd) .none kV_law_odd dc_law_odd pm_law_odd an_law_odd cd_law_odd ct_law_odd), sl_law_odd⟩)
    (c_law_odd : PySem.W.codeIn K cd_law_odd "_law_odd" = true) (k_law_odd : PySem.W.keepIn K (.ref f_law_odd) = true)
    (a_law : PySem.W.nsIn K mainGlobals "law" = some (some (.ref f_law)))
    (l_law : K.lookup f_law = some ⟨oc_law, od_law, .func (PySem.W.fnOf "law" "law" (defArgs s_law) (defBody s_law) (defScope s_law) .none kV_law dc_law pm_law an_law cd_law ct_law), sl_law⟩)
    (c_law : PySem.W.codeIn K cd_law "law" = true) (k_law : PySem.W.keepIn K (.ref f_law) = true)
    : ∃ fd : FuncData, (∀ (s : Shared) (v : Value), BindsTo s fd ⟨[v], []⟩ [("_law_script", v)]) ∧ ∀ base : Heap, K.In base → base.Ns mainGlobals mg → (∃ o, base.get? sysModules = some o) → FnD l.prog w K mg base CX0 3 fa fd ["_law_script"] spLaw := by
  have e := hfa.symm.trans (PySem.W.mg_of X G a_law)
  cases e
  have B : Nm mg := ⟨PySem.W.mg_none_of X G z_all, PySem.W.mg_none_of X G z_bool, PySem.W.mg_none_of X G z_int, PySem.W.mg_none_of X G z_isinstance, PySem.W.mg_none_of X G z_len, PySem.W.mg_none_of X G z_range, PySem.W.mg_none_of X G z_repr, PySem.W.mg_none_of X G z_str, ⟨_, PySem.W.mg_of X G y_LETTERS⟩, ⟨_, PySem.W.mg_of X G y_LONGEST⟩⟩
  have Q_is_name := funA_mk (st := s_is_name) l_is_name c_is_name k_is_name
  have b_is_name := (fun_mk (st := s_is_name) l_is_name c_is_name k_is_name).binds (ps := ["thing"]) fun _ _ _ _ _ _ us hl => match us, hl with | [_], _ => rfl
  have Q_law_deck := funA_mk (st := s_law_deck) l_law_deck c_law_deck k_law_deck
  have b_law_deck := (fun_mk (st := s_law_deck) l_law_deck c_law_deck k_law_deck).binds (ps := ["_law_cell"]) fun _ _ _ _ _ _ us hl => match us, hl with | [_], _ => rfl
  have Q_law_draw := funA_mk (st := s_law_draw) l_law_draw c_law_draw k_law_draw
  have b_law_draw := (fun_mk (st := s_law_draw) l_law_draw c_law_draw k_law_draw).binds (ps := ["_law_deck_here", "_law_bound"]) fun _ _ _ _ _ _ us hl => match us, hl with | [_, _], _ => rfl
  have Q_law_told := funA_mk (st := s_law_told) l_law_told c_law_told k_law_told
  have b_law_told := (fun_mk (st := s_law_told) l_law_told c_law_told k_law_told).binds (ps := ["_law_query", "_law_thing", "_law_due"]) fun _ _ _ _ _ _ us hl => match us, hl with | [_, _, _], _ => rfl
  have Q_law_sign := funA_mk (st := s_law_sign) l_law_sign c_law_sign k_law_sign
  have b_law_sign := (fun_mk (st := s_law_sign) l_law_sign c_law_sign k_law_sign).binds (ps := ["_law_deck_here"]) fun _ _ _ _ _ _ us hl => match us, hl with | [_], _ => rfl
  have Q_law_words := funA_mk (st := s_law_words) l_law_words c_law_words k_law_words
  have b_law_words := (fun_mk (st := s_law_words) l_law_words c_law_words k_law_words).binds (ps := ["_law_deck_here", "_law_many"]) fun _ _ _ _ _ _ us hl => match us, hl with | [_, _], _ => rfl
  have Q_law_is_name := funA_mk (st := s_law_is_name) l_law_is_name c_law_is_name k_law_is_name
  have b_law_is_name := (fun_mk (st := s_law_is_name) l_law_is_name c_law_is_name k_law_is_name).binds (ps := ["_law_thing"]) fun _ _ _ _ _ _ us hl => match us, hl with | [_], _ => rfl
  have Q_law_odd := funA_mk (st := s_law_odd) l_law_odd c_law_odd k_law_odd
  have b_law_odd := (fun_mk (st := s_law_odd) l_law_odd c_law_odd k_law_odd).binds (ps := ["_law_deck_here"]) fun _ _ _ _ _ _ us hl => match us, hl with | [_], _ => rfl
  have Q_law := funA_mk (st := s_law) l_law c_law k_law
  have b_law := (fun_mk (st := s_law) l_law c_law k_law).binds (ps := ["_law_script"]) fun _ _ _ _ _ _ us hl => match us, hl with | [_], _ => rfl
  refine ⟨PySem.W.fnOf "law" "law" (defArgs s_law) (defBody s_law) (defScope s_law) .none kV_law dc_law pm_law an_law cd_law ct_law, fun s v => .of_eq rfl, fun base _ _ SM => ?_⟩
  have G_law_deck : GFn l.prog w K mg base 1 "_law_deck" 1 (spV 1 F_law_deck) := ⟨f_law_deck, _, _, ok_law_deck Q_law_deck B SM, PySem.W.mg_of X G a_law_deck, k_law_deck, rfl, b_law_deck⟩
  have G_law_draw : GFn l.prog w K mg base 1 "_law_draw" 2 (spV 2 F_law_draw) := ⟨f_law_draw, _, _, ok_law_draw Q_law_draw B SM, PySem.W.mg_of X G a_law_draw, k_law_draw, rfl, b_law_draw⟩
  have G_law_words : GFn l.prog w K mg base 2 "_law_words" 2 (spV 2 F_law_words) := ⟨f_law_words, _, _, ok_law_words Q_law_words B SM G_law_draw, PySem.W.mg_of X G a_law_words, k_law_words, rfl, b_law_words⟩
  have G_law_sign : GFn l.prog w K mg base 2 "_law_sign" 1 (spV 1 F_law_sign) := ⟨f_law_sign, _, _, ok_law_sign Q_law_sign B SM G_law_draw, PySem.W.mg_of X G a_law_sign, k_law_sign, rfl, b_law_sign⟩
  have G_law_odd : GFn l.prog w K mg base 2 "_law_odd" 1 (spV 1 F_law_odd) := ⟨f_law_odd, _, _, ok_law_odd Q_law_odd B SM G_law_draw, PySem.W.mg_of X G a_law_odd, k_law_odd, rfl, b_law_odd⟩
  have G_is_name : GFn l.prog w K mg base 1 "is_name" 1 (spV 1 F_is_name) := ⟨f_is_name, _, _, ok_is_name Q_is_name B SM, PySem.W.mg_of X G a_is_name, k_is_name, rfl, b_is_name⟩
  have A_is_name : GAt l.prog w K mg base 1 "is_name" f_is_name 1 (spV 1 F_is_name) := ⟨_, _, ok_is_name Q_is_name B SM, PySem.W.mg_of X G a_is_name, k_is_name, rfl, b_is_name⟩
  have G_law_told : GFn l.prog w K mg base 2 "_law_told" 3 (spV 3 (F_law_told f_is_name)) := ⟨f_law_told, _, _, ok_law_told Q_law_told B SM A_is_name, PySem.W.mg_of X G a_law_told, k_law_told, rfl, b_law_told⟩
  have G_law_is_name : GFn l.prog w K mg base 1 "_law_is_name" 1 (spV 1 F_law_is_name) := ⟨f_law_is_name, _, _, ok_law_is_name Q_law_is_name B SM, PySem.W.mg_of X G a_law_is_name, k_law_is_name, rfl, b_law_is_name⟩
  exact ok_law Q_law B SM G_law_deck G_law_words G_law_draw G_law_sign G_law_odd G_law_told G_law_is_name A_is_name
end LK
open PySem PySem.W PyProof.Rows
set_option maxRecDepth 100000 in
set_option maxHeartbeats 0 in
theorem PySem.Challenge.cw_quotahours_k01_names_holds : PySem.Challenge.rw_quotahours_k01_names.Holds := by
  w_on; o_law; k_head; (case hw => w_witness2)
  k_fill
  refine FL.walk_dS (l := PySem.Challenge.rw_quotahours_k01_names) (k := 3) (x := "_law_script") ?hs rfl rfl ⟨rfl, by decide, by decide⟩ (fun w h Y => PySem.W.kIn_of Y) ?F
  case hs => rfl
  case F =>
    intro w mg fa h KX G hmg
    refine' LK.all_mk KX G hmg ?z_all ?z_bool ?z_int ?z_isinstance ?z_len ?z_range ?z_repr ?z_str ?y_LETTERS ?y_LONGEST ?a_is_name ?l_is_name ?c_is_name ?k_is_name ?a_law_deck ?l_law_deck ?c_law_deck ?k_law_deck ?a_law_draw ?l_law_draw ?c_law_draw ?k_law_draw ?a_law_told ?l_law_told ?c_law_told ?k_law_told ?a_law_sign ?l_law_sign ?c_law_sign ?k_law_sign ?a_law_words ?l_law_words ?c_law_words ?k_law_words ?a_law_is_name ?l_law_is_name ?c_law_is_name ?k_law_is_name ?a_law_odd ?l_law_odd ?c_law_odd ?k_law_odd ?a_law ?l_law ?c_law ?k_law
    (case z_all => k_is); (case z_bool => k_is); (case z_int => k_is); (case z_isinstance => k_is); (case z_len => k_is); (case z_range => k_is)
    (case z_repr => k_is); (case z_str => k_is); (case y_LETTERS => k_is); (case y_LONGEST => k_is); (case a_is_name => k_is); (case l_is_name => k_is)
    (case c_is_name => k_is); (case k_is_name => k_is); (case a_law_deck => k_is); (case l_law_deck => k_is); (case c_law_deck => k_is); (case k_law_deck => k_is)
    (case a_law_draw => k_is); (case l_law_draw => k_is); (case c_law_draw => k_is); (case k_law_draw => k_is); (case a_law_told => k_is); (case l_law_told => k_is)
    (case c_law_told => k_is); (case k_law_told => k_is); (case a_law_sign => k_is); (case l_law_sign => k_is); (case c_law_sign => k_is); (case k_law_sign => k_is)
    (case a_law_words => k_is); (case l_law_words => k_is); (case c_law_words => k_is); (case k_law_words => k_is); (case a_law_is_name => k_is); (case l_law_is_name => k_is)
    (case c_law_is_name => k_is); (case k_law_is_name => k_is); (case a_law_odd => k_is); (case l_law_odd => k_is); (case c_law_odd => k_is); (case k_law_odd => k_is)
    (case a_law => k_is); (case l_law => k_is); (case c_law => k_is); (case k_law => k_is)
end
